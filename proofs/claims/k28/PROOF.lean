import PyProof.Rows.All
import Wide.All
import OpenK.AllK
import Wide.FinOn
import HandS.ForMost
import HandS.ForExc
import HandS.CallSlots
import HandS.IsInst
import HandS.TupAny
import HandS.Wide
import HandS.Deep
import HandS.Style
import HandS.TupMul
import HandS.Conv
import HandS.Small
import HandS.Defaults
import HandS.HeadEnd
import HandS.Head2
import HandS.HeadHook4
import HandS.Dict
import KE.SortData
import HandS.Zip
import HandS.TryOnly
import PySem.Challenge.RW_dartwebs_k28_whole_steady
set_option Elab.async false
set_option linter.all false
set_option maxRecDepth 100000
namespace DV
open PySem PySem.Spec PyProof.Rows L2

/-- a value: data that never changes, or an owned list's place in the store -/
inductive Val where
  | d (x : PyData)
  | loc (k : Nat)
inductive Ob where
  | lst (xs : List Val)
  | frz (ds : List PyData)
structure Exn where
  cls : Str
  fs : List (Str × PyData)
abbrev Sto := List Ob
abbrev Sl := List (Option Val)
inductive R (α : Type) where
  | ok (a : α) (s : Sto)
  | er (e : Exn) (s : Sto)
  | bad
@[inline] def R.bind {α β : Type} (x : R α) (f : α → Sto → R β) : R β := match x with
  | .ok a s => f a s
  | .er e s => .er e s
  | .bad => .bad
abbrev DE := Sl → Sto → R Val

/-! ### data in a heap -/
def keyD : Key → PyData
  | .inl i => .int i
  | .inr x => .str x
mutual
inductive Dq (K : PySem.W.Frag) (H : Hp) : V → PyData → Prop
  | non : Dq K H .non .none
  | bl (b : Bool) : Dq K H (.bl b) (.bool b)
  | int (i : Int) : Dq K H (.int i) (.int i)
  | str (x : Str) : Dq K H (.str x) (.str x)
  | lst {a : Addr} {xs : List V} {ds : List PyData} : H a = some (.lst xs) → DqAll K H xs ds → Dq K H (.ref a) (.list ds)
  | scr {a : Addr} {xs : List V} {ds : List PyData} : SqL K H a xs → DqAll K H xs ds → Dq K H (.ref a) (.dict [(.none, .list ds)])
  | tup {a : Addr} {xs : List V} {ds : List PyData} : SqT K H a xs → DqAll K H xs ds → Dq K H (.ref a) (.tuple ds)
  | dk {a : Addr} {ks : List Key} {vs : List V} {kvs : List (PyData × PyData)} : H a = some (.dK (ks.zip vs)) → ks.length = vs.length → kvs.map (·.1) = ks.map keyD → DqAll K H vs (kvs.map (·.2)) → Dq K H (.ref a) (.dict kvs)
  | dt {a : Addr} {ks : List (List Key)} {vs : List V} {kvs : List (PyData × PyData)} : H a = some (.dT (ks.zip vs)) → ks.length = vs.length → kvs.map (·.1) = ks.map (fun k => .tuple (k.map keyD)) → DqAll K H vs (kvs.map (·.2)) → Dq K H (.ref a) (.dict kvs)
inductive DqAll (K : PySem.W.Frag) (H : Hp) : List V → List PyData → Prop
  | nil : DqAll K H [] []
  | cons {v : V} {vs : List V} {d : PyData} {ds : List PyData} : Dq K H v d → DqAll K H vs ds → DqAll K H (v :: vs) (d :: ds)
end

/-! ### data in a heap that only grows -/
section
variable {K : PySem.W.Frag} {F F' H H' : Hp}
theorem SqT.mono {a : Addr} {xs : List V} (e : Same F F') (h : SqT K F a xs) : SqT K F' a xs := by
  rcases h with (h | ⟨o, h⟩) | h
  · exact .inl (.inl (e _ _ h))
  · exact .inl (.inr ⟨o, e _ _ h⟩)
  · exact .inr h
mutual
theorem Dq.mono' (e : Same F F') {d : PyData} {v : V} (h : Dq K F v d) : Dq K F' v d := match h with
  | .non => .non
  | .bl _ => .bl _
  | .int _ => .int _
  | .str _ => .str _
  | .lst s q => .lst (e _ _ s) (DqAll.mono' e q)
  | .scr s q => .scr (e.seq s) (DqAll.mono' e q)
  | .tup s q => .tup (SqT.mono e s) (DqAll.mono' e q)
  | .dk s l k q => .dk (e _ _ s) l k (DqAll.mono' e q)
  | .dt s l k q => .dt (e _ _ s) l k (DqAll.mono' e q)
theorem DqAll.mono' (e : Same F F') {ds : List PyData} {vs : List V} (h : DqAll K F vs ds) : DqAll K F' vs ds := match h with
  | .nil => .nil
  | .cons a b => .cons (Dq.mono' e a) (DqAll.mono' e b)
end
theorem Dq.mono (e : Same F F') (d : PyData) (v : V) (h : Dq K F v d) : Dq K F' v d := Dq.mono' e h
theorem DqAll.mono (e : Same F F') (ds : List PyData) (vs : List V) (h : DqAll K F vs ds) : DqAll K F' vs ds := DqAll.mono' e h
mutual
theorem Dq.dp {d : PyData} {v : V} (h : Dq K F v d) (c : d.canLay0 = true) : Dp K F v d := match h with
  | .non => .non
  | .bl _ => .bl _
  | .int _ => .int _
  | .str _ => .str _
  | .lst s q => .lst (SqL.of s) (DqAll.dp q (by simpa [PyData.canLay0] using c))
  | .scr s q => by simp [PyData.canLay0] at c
  | .tup s q => .tup s (DqAll.dp q (by simpa [PyData.canLay0] using c))
  | .dk s l k q => by simp [PyData.canLay0] at c
  | .dt s l k q => by simp [PyData.canLay0] at c
theorem DqAll.dp {ds : List PyData} {vs : List V} (h : DqAll K F vs ds) (c : PyData.canLayAll0 ds = true) : DpAll K F vs ds := match h with
  | .nil => .nil
  | .cons a b => by
    simp only [PyData.canLayAll0, Bool.and_eq_true] at c
    exact .cons (Dq.dp a c.1) (DqAll.dp b c.2)
end
theorem DqAll.length : ∀ {ds : List PyData} {vs : List V}, DqAll K F vs ds → vs.length = ds.length
  | [], _, h => by cases h; rfl
  | _ :: ds, _, h => by
    cases h with
    | cons a b => simp [DqAll.length b]
theorem DqAll.append : ∀ {ds es : List PyData} {vs us : List V}, DqAll K F vs ds → DqAll K F us es → DqAll K F (vs ++ us) (ds ++ es)
  | [], _, _, _, h, h' => by cases h; exact h'
  | _ :: _, _, _, _, h, h' => by
    cases h with
    | cons a b => exact .cons a (DqAll.append b h')
theorem DqAll.get : ∀ {ds : List PyData} {vs : List V} {i : Nat} {d : PyData}, DqAll K F vs ds → ds[i]? = some d → ∃ v, vs[i]? = some v ∧ Dq K F v d
  | [], _, _, _, _, e => by simp at e
  | d :: ds, _, 0, x, h, e => by
    cases h with
    | cons a b =>
      simp at e
      subst e
      exact ⟨_, rfl, a⟩
  | d :: ds, _, i + 1, x, h, e => by
    cases h with
    | cons a b =>
      obtain ⟨v, e1, q⟩ := DqAll.get (i := i) (d := x) b (by simpa using e)
      exact ⟨v, by simpa using e1, q⟩
theorem DqAll.take : ∀ {ds : List PyData} {vs : List V} (n : Nat), DqAll K F vs ds → DqAll K F (vs.take n) (ds.take n)
  | _, _, 0, _ => by simp; exact .nil
  | [], _, n + 1, h => by cases h; simp; exact .nil
  | d :: ds, _, n + 1, h => by
    cases h with
    | cons a b => simpa using DqAll.cons a (DqAll.take n b)
theorem DqAll.drop : ∀ {ds : List PyData} {vs : List V} (n : Nat), DqAll K F vs ds → DqAll K F (vs.drop n) (ds.drop n)
  | _, _, 0, h => by simpa using h
  | [], _, n + 1, h => by cases h; simp; exact .nil
  | d :: ds, _, n + 1, h => by
    cases h with
    | cons a b => simpa using DqAll.drop n b
theorem DqAll.ints : ∀ {is : List Int} {vs : List V}, DqAll K F vs (is.map .int) → vs = is.map .int
  | [], _, h => by cases h; rfl
  | i :: is, _, h => by
    cases h with
    | cons a b =>
      cases a
      rw [DqAll.ints b]
      rfl
theorem DqAll.bls : ∀ {is : List Bool} {vs : List V}, DqAll K F vs (is.map .bool) → vs = is.map .bl
  | [], _, h => by cases h; rfl
  | i :: is, _, h => by
    cases h with
    | cons a b =>
      cases a
      rw [DqAll.bls b]
      rfl
theorem DqAll.of_ints : ∀ (is : List Int), DqAll K F (is.map .int) (is.map .int)
  | [] => .nil
  | i :: is => .cons (.int i) (DqAll.of_ints is)
end

/-! ### the store in the heap -/
section
variable (K : PySem.W.Frag) (ι : Nat → Addr) (F H : Hp)
def RV (n : Nat) (v : V) : Val → Prop
  | .d x => Dq K F v x
  | .loc k => k < n ∧ v = .ref (ι k)
inductive RVs (n : Nat) : List V → List Val → Prop
  | nil : RVs n [] []
  | cons {v : V} {x : Val} {vs : List V} {xs : List Val} : RV K ι F n v x → RVs n vs xs → RVs n (v :: vs) (x :: xs)
def ObR (n : Nat) (a : Addr) : Ob → Prop
  | .lst xs => F a = none ∧ ∃ vs, H a = some (.lst vs) ∧ RVs K ι F n vs xs
  | .frz ds => ∃ vs, F a = some (.lst vs) ∧ DqAll K F vs ds
structure Rel (S : Sto) : Prop where
  sub : Same F H
  inj : ∀ i j, i < S.length → j < S.length → ι i = ι j → i = j
  obj : ∀ (k : Nat) (o : Ob), S[k]? = some o → ObR K ι F H S.length (ι k) o
def SlR (n : Nat) (σ : L2.St) (sl : Sl) : Prop := ∀ (i : Nat) (x : Val), sl[i]? = some (some x) → ∃ v, σ[i]? = some (some v) ∧ RV K ι F n v x
/-- an operand as data, now -/
def RD (v : V) (x : PyData) : Prop := Dq K F v x ∨ ∃ a vs ds, v = .ref a ∧ x = .list ds ∧ H a = some (.lst vs) ∧ DqAll K F vs ds
end
/-- from a state to a later one -/
structure Stp (ι : Nat → Addr) (F H : Hp) (n : Nat) (ι' : Nat → Addr) (F' H' : Hp) (n' : Nat) : Prop where
  le : n ≤ n'
  ag : ∀ k, k < n → ι' k = ι k
  ff : Same F F'
  out : ∀ a o, H a = some o → (∀ k, k < n → ι k ≠ a) → H' a = some o
  dom : ∀ a o, H a = some o → ∃ o', H' a = some o'
  new : ∀ k, n ≤ k → k < n' → H (ι' k) = none
  fnew : ∀ a o, F' a = some o → F a = some o ∨ H a = none ∨ ∃ k, k < n ∧ ι k = a
/-- growth alone -/
structure Grow (F H F' H' : Hp) : Prop where
  ff : Same F F'
  hh : Same H H'
  sub : Same F' H'
  fnew : ∀ a o, F' a = some o → F a = some o ∨ H a = none
section
variable {K : PySem.W.Frag} {ι ι1 ι2 : Nat → Addr} {F F1 F2 H H1 H2 : Hp} {n n1 n2 : Nat} {S S1 S2 : Sto}
theorem Stp.refl : Stp ι F H n ι F H n :=
  ⟨Nat.le_refl _, fun _ _ => rfl, Same.refl _, fun _ _ h _ => h, fun _ o h => ⟨o, h⟩, fun _ h1 h2 => absurd (Nat.lt_of_le_of_lt h1 h2) (Nat.lt_irrefl _), fun _ _ h => .inl h⟩
theorem none_back {H H1 : Hp} (dom : ∀ a o, H a = some o → ∃ o', H1 a = some o') {a : Addr} (h : H1 a = none) : H a = none := by
  cases q : H a with
  | none => rfl
  | some o =>
    obtain ⟨o', e⟩ := dom a o q
    rw [h] at e
    cases e
theorem Stp.trans (a : Stp ι F H n ι1 F1 H1 n1) (b : Stp ι1 F1 H1 n1 ι2 F2 H2 n2) : Stp ι F H n ι2 F2 H2 n2 where
  le := Nat.le_trans a.le b.le
  ag := fun k hk => (b.ag k (Nat.lt_of_lt_of_le hk a.le)).trans (a.ag k hk)
  ff := a.ff.trans b.ff
  out := fun x o h hn => b.out x o (a.out x o h hn) fun k hk e => by
    by_cases q : k < n
    · exact hn k q ((a.ag k q).symm.trans e)
    · have := a.new k (Nat.le_of_not_lt q) hk
      rw [e, h] at this
      cases this
  dom := fun x o h => let ⟨o1, h1⟩ := a.dom x o h; b.dom x o1 h1
  new := fun k h1 h2 => by
    by_cases q : k < n1
    · rw [b.ag k q]
      exact a.new k h1 q
    · exact none_back a.dom (b.new k (Nat.le_of_not_lt q) h2)
  fnew := fun x o h => by
    rcases b.fnew x o h with h | h | ⟨k, hk, e⟩
    · exact a.fnew x o h
    · exact .inr (.inl (none_back a.dom h))
    · by_cases q : k < n
      · exact .inr (.inr ⟨k, q, (a.ag k q).symm.trans e⟩)
      · exact .inr (.inl (e ▸ a.new k (Nat.le_of_not_lt q) hk))
theorem Grow.refl (h : Same F H) : Grow F H F H := ⟨Same.refl _, Same.refl _, h, fun _ _ h => .inl h⟩
theorem Grow.dom (g : Grow F H F1 H1) : ∀ a o, H a = some o → ∃ o', H1 a = some o' := fun a o h => ⟨o, g.hh a o h⟩
theorem Grow.trans (a : Grow F H F1 H1) (b : Grow F1 H1 F2 H2) : Grow F H F2 H2 :=
  ⟨a.ff.trans b.ff, a.hh.trans b.hh, b.sub, fun x o h => (b.fnew x o h).elim (a.fnew x o) fun q => .inr (none_back a.dom q)⟩
theorem Grow.stp (g : Grow F H F1 H1) : Stp ι F H n ι F1 H1 n :=
  ⟨Nat.le_refl _, fun _ _ => rfl, g.ff, fun a o h _ => g.hh a o h, g.dom, fun _ h1 h2 => absurd (Nat.lt_of_le_of_lt h1 h2) (Nat.lt_irrefl _), fun a o h => (g.fnew a o h).elim .inl fun q => .inr (.inl q)⟩
/-- a new frozen object -/
theorem Grow.new {p : Addr} {o : HO} (s : Same F H) (hp : H p = none) : Grow F H (upd F p o) (upd H p o) := by
  have fp : F p = none := s.free hp
  refine ⟨fun a u h => ?_, fun a u h => ?_, fun a u h => ?_, fun a u h => ?_⟩
  · rw [upd_ne (ne_of_none h fp)]; exact h
  · rw [upd_ne (ne_of_none h hp)]; exact h
  · by_cases e : a = p
    · subst e; rw [upd_same] at h ⊢; exact h
    · rw [upd_ne e] at h ⊢; exact s _ _ h
  · by_cases e : a = p
    · subst e; exact .inr hp
    · rw [upd_ne e] at h; exact .inl h
theorem RV.mono {v : V} {x : Val} (h : RV K ι F n v x) (le : n ≤ n1) (ag : ∀ k, k < n → ι1 k = ι k) (ff : Same F F1) : RV K ι1 F1 n1 v x := by
  cases x with
  | d x => exact Dq.mono ff _ _ h
  | loc k => exact ⟨Nat.lt_of_lt_of_le h.1 le, by rw [ag k h.1]; exact h.2⟩
theorem RVs.mono {vs : List V} {xs : List Val} (h : RVs K ι F n vs xs) (le : n ≤ n1) (ag : ∀ k, k < n → ι1 k = ι k) (ff : Same F F1) : RVs K ι1 F1 n1 vs xs := by
  induction h with
  | nil => exact .nil
  | cons a _ ih => exact .cons (a.mono le ag ff) ih
theorem RV.stp {v : V} {x : Val} (h : RV K ι F n v x) (s : Stp ι F H n ι1 F1 H1 n1) : RV K ι1 F1 n1 v x := h.mono s.le s.ag s.ff
theorem RVs.stp {vs : List V} {xs : List Val} (h : RVs K ι F n vs xs) (s : Stp ι F H n ι1 F1 H1 n1) : RVs K ι1 F1 n1 vs xs := h.mono s.le s.ag s.ff
theorem SlR.stp {σ : L2.St} {sl : Sl} (h : SlR K ι F n σ sl) (s : Stp ι F H n ι1 F1 H1 n1) : SlR K ι1 F1 n1 σ sl := fun i x e =>
  let ⟨v, e1, r⟩ := h i x e; ⟨v, e1, r.stp s⟩
theorem RVs.length {vs : List V} {xs : List Val} (h : RVs K ι F n vs xs) : vs.length = xs.length := by
  induction h with
  | nil => rfl
  | cons _ _ ih => simp [ih]
theorem RVs.append {vs us : List V} {xs ys : List Val} (h : RVs K ι F n vs xs) (h' : RVs K ι F n us ys) : RVs K ι F n (vs ++ us) (xs ++ ys) := by
  induction h with
  | nil => exact h'
  | cons a _ ih => exact .cons a ih
theorem RVs.get {vs : List V} {xs : List Val} (h : RVs K ι F n vs xs) : ∀ {i : Nat} {x : Val}, xs[i]? = some x → ∃ v, vs[i]? = some v ∧ RV K ι F n v x := by
  induction h with
  | nil => intro i x e; simp at e
  | cons a _ ih =>
    intro i x e
    cases i with
    | zero => simp at e; subst e; exact ⟨_, rfl, a⟩
    | succ i =>
      obtain ⟨v, e1, r⟩ := ih (i := i) (by simpa using e)
      exact ⟨v, by simpa using e1, r⟩
theorem RVs.set {vs : List V} {xs : List Val} (h : RVs K ι F n vs xs) {v : V} {x : Val} (r : RV K ι F n v x) : ∀ i : Nat, RVs K ι F n (vs.set i v) (xs.set i x) := by
  induction h with
  | nil => intro i; simp; exact .nil
  | cons a t ih =>
    intro i
    cases i with
    | zero => simpa using RVs.cons r t
    | succ i => simpa using RVs.cons a (ih i)
theorem RVs.of_all {vs : List V} {ds : List PyData} (h : DqAll K F vs ds) : RVs K ι F n vs (ds.map .d) := by
  induction ds generalizing vs with
  | nil => cases h; exact .nil
  | cons d ds ih =>
    cases h with
    | cons a b => exact .cons a (ih b)
/-- the items, all of them data -/
def allD : List Val → Option (List PyData)
  | [] => some []
  | .d x :: r => (allD r).map (x :: ·)
  | .loc _ :: _ => none
theorem RVs.all {vs : List V} {xs : List Val} (h : RVs K ι F n vs xs) : ∀ {ds : List PyData}, allD xs = some ds → DqAll K F vs ds := by
  induction h with
  | nil => intro ds e; simp [allD] at e; subst e; exact .nil
  | @cons v x vs xs a t ih =>
    intro ds e
    cases x with
    | loc k => simp [allD] at e
    | d x =>
      simp only [allD, Option.map_eq_some_iff] at e
      obtain ⟨es, e1, rfl⟩ := e
      exact .cons a (ih e1)
theorem allD_map (ds : List PyData) : allD (ds.map .d) = some ds := by
  induction ds with
  | nil => rfl
  | cons d ds ih => simp [allD, ih]
theorem allD_eq : ∀ {xs : List Val} {ds : List PyData}, allD xs = some ds → xs = ds.map .d
  | [], ds, e => by simp [allD] at e; subst e; rfl
  | .d x :: r, ds, e => by
    simp only [allD, Option.map_eq_some_iff] at e
    obtain ⟨es, e1, rfl⟩ := e
    rw [allD_eq e1]
    rfl
  | .loc _ :: _, _, e => by simp [allD] at e
/-- an operand's data, now -/
def dat (S : Sto) : Val → Option PyData
  | .d x => some x
  | .loc k => match S[k]? with
    | some (.lst xs) => (allD xs).map .list
    | some (.frz ds) => some (.list ds)
    | none => none
theorem RV.dat {v : V} {x : Val} {y : PyData} (r : RV K ι F S.length v x) (rel : Rel K ι F H S) (e : dat S x = some y) : RD K F H v y := by
  cases x with
  | d x => simp [DV.dat] at e; subst e; exact .inl r
  | loc k =>
    obtain ⟨hk, rfl⟩ := r
    unfold DV.dat at e
    dsimp only at e
    split at e
    · rename_i xs q
      simp only [Option.map_eq_some_iff] at e
      obtain ⟨ds, e1, rfl⟩ := e
      obtain ⟨_, vs, h1, h2⟩ := rel.obj k _ q
      exact .inr ⟨_, vs, ds, rfl, rfl, h1, h2.all e1⟩
    · rename_i x q
      cases e
      obtain ⟨vs, h1, h2⟩ := rel.obj k _ q
      exact .inl (.lst h1 h2)
    · cases e
theorem RD.dp {v : V} {x : PyData} (s : Same F H) (h : RD K F H v x) : Dq K H v x := by
  rcases h with h | ⟨a, vs, ds, rfl, rfl, h1, h2⟩
  · exact Dq.mono s _ _ h
  · exact .lst h1 (DqAll.mono s _ _ h2)
theorem RD.int {v : V} {i : Int} (h : RD K F H v (.int i)) : v = .int i := by
  rcases h with h | ⟨a, vs, ds, rfl, e, h1, h2⟩
  · cases h; rfl
  · cases e
theorem RD.bl {v : V} {i : Bool} (h : RD K F H v (.bool i)) : v = .bl i := by
  rcases h with h | ⟨a, vs, ds, rfl, e, h1, h2⟩
  · cases h; rfl
  · cases e
theorem RD.str {v : V} {i : Str} (h : RD K F H v (.str i)) : v = .str i := by
  rcases h with h | ⟨a, vs, ds, rfl, e, h1, h2⟩
  · cases h; rfl
  · cases e
theorem RD.non {v : V} (h : RD K F H v .none) : v = .non := by
  rcases h with h | ⟨a, vs, ds, rfl, e, h1, h2⟩
  · cases h; rfl
  · cases e
theorem RD.list {v : V} {ds : List PyData} (s : Same F H) (h : RD K F H v (.list ds)) : ∃ a vs, v = .ref a ∧ H a = some (.lst vs) ∧ DqAll K F vs ds := by
  rcases h with h | ⟨a, vs, ds, rfl, e, h1, h2⟩
  · cases h with
    | lst q r => exact ⟨_, _, rfl, s _ _ q, r⟩
  · cases e; exact ⟨_, _, rfl, h1, h2⟩
theorem RD.tuple {v : V} {ds : List PyData} (s : Same F H) (h : RD K F H v (.tuple ds)) : ∃ a vs, v = .ref a ∧ SqT K H a vs ∧ DqAll K F vs ds := by
  rcases h with h | ⟨a, vs, ds, rfl, e, h1, h2⟩
  · cases h with
    | tup q r => exact ⟨_, _, rfl, SqT.mono s q, r⟩
  · cases e
/-- growth keeps the store -/
theorem Rel.grow (r : Rel K ι F H S) (g : Grow F H F1 H1) : Rel K ι F1 H1 S where
  sub := g.sub
  inj := r.inj
  obj := fun k o e => by
    have h := r.obj k o e
    cases o with
    | frz x =>
      obtain ⟨vs, h1, h2⟩ := h
      exact ⟨vs, g.ff _ _ h1, DqAll.mono g.ff _ _ h2⟩
    | lst xs =>
      obtain ⟨h0, vs, h1, h2⟩ := h
      refine ⟨?_, vs, g.hh _ _ h1, h2.mono (Nat.le_refl _) (fun _ _ => rfl) g.ff⟩
      cases q : F1 (ι k) with
      | none => rfl
      | some u =>
        rcases g.fnew _ _ q with z | z
        · rw [h0] at z; cases z
        · rw [h1] at z; cases z
end
section
variable {K : PySem.W.Frag} {F H : Hp}
theorem RD.scr {v : V} {ds : List PyData} (s : Same F H) (h : RD K F H v (.dict [(.none, .list ds)])) : ∃ a vs, v = .ref a ∧ SqL K H a vs ∧ DqAll K F vs ds := by
  rcases h with h | ⟨a, vs, ds, rfl, e, h1, h2⟩
  · cases h with
    | scr q r => exact ⟨_, _, rfl, s.seq q, r⟩
    | dk _ _ e _ =>
      rename_i ks _ _ _ _
      cases ks with
      | nil => simp at e
      | cons k ks => cases k <;> simp [keyD] at e
    | dt _ _ e _ =>
      rename_i ks _ _ _ _
      cases ks with
      | nil => simp at e
      | cons k ks => simp at e
  · cases e
end
end DV
set_option Elab.async false
set_option linter.all false
set_option maxRecDepth 100000
namespace DV
open PySem PySem.Spec PyProof.Rows L2

abbrev CxSt := L2.St
/-- an exception as data -/
def ErrR (K : PySem.W.Frag) (mg : Str → Option Value) (F : Hp) (e : Exn) (cls : Value) (d : Option Addr) (H : Hp) : Prop :=
  (∃ C, cls = .ref C ∧ mg e.cls = some (.ref C)) ∧ match e.fs with
    | [] => True
    | fs => ∃ dx vs, d = some dx ∧ H dx = some (.xd vs) ∧ vs.map (·.1) = fs.map (·.1) ∧ DqAll K F (vs.map (·.2)) (fs.map (·.2))
section
variable (K : PySem.W.Frag) (mg : Str → Option Value) (W : WX) (σ : CxSt)
/-- behind a reckoning -/
def Aft {α : Type} (ι : Nat → Addr) (F H : Hp) (n : Nat) (r : R α) (P : α → Sto → (Nat → Addr) → Hp → Hp → Prop) : Prop := match r with
  | .ok a S' => ∀ ι' F' H', Stp ι F H n ι' F' H' S'.length → Rel K ι' F' H' S' → P a S' ι' F' H'
  | .er e S' => ∀ ι' F' H' cls d, Stp ι F H n ι' F' H' S'.length → Rel K ι' F' H' S' → ErrR K mg F' e cls d H' → W cls d σ H'
  | .bad => False
end
section
variable {K : PySem.W.Frag} {mg : Str → Option Value} {W : WX} {σ : CxSt} {ι ι1 : Nat → Addr} {F F1 H H1 : Hp} {n n1 : Nat} {α β : Type}
theorem Aft.stp {r : R α} {P : α → Sto → (Nat → Addr) → Hp → Hp → Prop} (h : Aft K mg W σ ι F H n r P) (s : Stp ι F H n ι1 F1 H1 n1) : Aft K mg W σ ι1 F1 H1 n1 r P := by
  cases r with
  | ok a S' => exact fun ι' F' H' s' rel => h ι' F' H' (s.trans s') rel
  | er e S' => exact fun ι' F' H' cls d s' rel er => h ι' F' H' cls d (s.trans s') rel er
  | bad => exact h
theorem Aft.bind {r : R α} {k : α → Sto → R β} {P : β → Sto → (Nat → Addr) → Hp → Hp → Prop} (h : Aft K mg W σ ι F H n (r.bind k) P) :
    Aft K mg W σ ι F H n r fun a S1 ι1 F1 H1 => Stp ι F H n ι1 F1 H1 S1.length ∧ Rel K ι1 F1 H1 S1 ∧ Aft K mg W σ ι1 F1 H1 S1.length (k a S1) P := by
  cases r with
  | ok a S1 => exact fun ι1 F1 H1 s rel => ⟨s, rel, Aft.stp (r := k a S1) h s⟩
  | er e S' => exact h
  | bad => exact h
theorem Aft.imp {r : R α} {P P' : α → Sto → (Nat → Addr) → Hp → Hp → Prop} (h : Aft K mg W σ ι F H n r P) (k : ∀ a S' ι' F' H', P a S' ι' F' H' → P' a S' ι' F' H') : Aft K mg W σ ι F H n r P' := by
  cases r with
  | ok a S' => exact fun ι' F' H' s' rel => k _ _ _ _ _ (h ι' F' H' s' rel)
  | er e S' => exact h
  | bad => exact h
end
/-- readings: an expression, a test, an argument list -/
def tE (K : PySem.W.Frag) (mg : Str → Option Value) (W : WX) (f : DE) : TE := fun σ H Q => ∃ ι F S sl, sl.length ≤ σ.length ∧ SlR K ι F S.length σ sl ∧ Rel K ι F H S ∧
  Aft K mg W σ ι F H S.length (f sl S) fun x S' ι' F' H' => ∀ u, RV K ι' F' S'.length u x → Q u H'
abbrev DB := Sl → Sto → R Bool
def tB (K : PySem.W.Frag) (mg : Str → Option Value) (W : WX) (f : DB) : TT := fun σ H Q => ∃ ι F S sl, sl.length ≤ σ.length ∧ SlR K ι F S.length σ sl ∧ Rel K ι F H S ∧
  Aft K mg W σ ι F H S.length (f sl S) fun b S' ι' F' H' => Q b H'
abbrev DL := Sl → Sto → R (List Val)
def tL (K : PySem.W.Frag) (mg : Str → Option Value) (W : WX) (f : DL) : TA := fun σ H Q => ∃ ι F S sl, sl.length ≤ σ.length ∧ SlR K ι F S.length σ sl ∧ Rel K ι F H S ∧
  Aft K mg W σ ι F H S.length (f sl S) fun xs S' ι' F' H' => ∀ us, RVs K ι' F' S'.length us xs → Q us H'
theorem PE.imp {X : Cx} {e : Expr} {t t' : TE} (h : PE X e t) (k : ∀ σ H Q, t' σ H Q → t σ H Q) : PE X e t' := ⟨fun pins s σ H Q I q => h.run pins s σ H Q I (k _ _ _ q)⟩
theorem PT.imp {X : Cx} {e : Expr} {t t' : TT} (h : PT X e t) (k : ∀ σ H Q, t' σ H Q → t σ H Q) : PT X e t' := ⟨fun pins s σ H Q I q => h.run pins s σ H Q I (k _ _ _ q)⟩
theorem PA.imp {X : Cx} {e : List Expr} {t t' : TA} (h : PA X e t) (k : ∀ σ H Q, t' σ H Q → t σ H Q) : PA X e t' := ⟨fun pos pins s σ H Q I q => h.run pos pins s σ H Q I (k _ _ _ q)⟩
theorem PW.imp {X : Cx} {e : Expr} {t t' : TT} (h : PW X e t) (k : ∀ σ H Q, t' σ H Q → t σ H Q) : PW X e t' := ⟨fun wh pins s σ H Q I q => h.run wh pins s σ H Q I (k _ _ _ q)⟩
/-- THE JUDGEMENTS -/
def QE (X : Cx) (W : WX) (e : Expr) (f : DE) : Prop := PE X e (tE X.K X.mg W f)
def QT (X : Cx) (W : WX) (e : Expr) (f : DB) : Prop := PT X e (tB X.K X.mg W f)
def QW (X : Cx) (W : WX) (e : Expr) (f : DB) : Prop := PW X e (tB X.K X.mg W f)
def QA (X : Cx) (W : WX) (es : List Expr) (f : DL) : Prop := PA X es (tL X.K X.mg W f)
section
variable {X : Cx} {W : WX} {a b c e : Expr} {es : List Expr} {fa fb fc f : DE} {pos p p2 : Pos}

/-- enter a reading: the state as it is; close one: what was reached -/
theorem tE.of {K : PySem.W.Frag} {mg : Str → Option Value} {σ : CxSt} {H : Hp} {Q : VK} {ι : Nat → Addr} {F : Hp} {S : Sto} {sl : Sl} (hz : sl.length ≤ σ.length) (hs : SlR K ι F S.length σ sl) (r : Rel K ι F H S)
    (h : Aft K mg W σ ι F H S.length (f sl S) fun x S' ι' F' H' => ∀ u, RV K ι' F' S'.length u x → Q u H') : tE K mg W f σ H Q := ⟨ι, F, S, sl, hz, hs, r, h⟩
/-- two expressions in a row -/
theorem tE.two {K : PySem.W.Frag} {mg : Str → Option Value} {σ : CxSt} {H : Hp} {ι : Nat → Addr} {F : Hp} {S : Sto} {sl : Sl} {k : Val → Val → Sto → R Val} {P : Val → Sto → (Nat → Addr) → Hp → Hp → Prop} {Q : V → V → Hp → Prop}
    (hz : sl.length ≤ σ.length) (hs : SlR K ι F S.length σ sl) (r : Rel K ι F H S)
    (h : Aft K mg W σ ι F H S.length ((fa sl S).bind fun x S1 => (fb sl S1).bind fun y S2 => k x y S2) P)
    (hQ : ∀ x y S2 ι2 F2 H2 u v, Stp ι F H S.length ι2 F2 H2 S2.length → Rel K ι2 F2 H2 S2 → RV K ι2 F2 S2.length u x → RV K ι2 F2 S2.length v y → Aft K mg W σ ι2 F2 H2 S2.length (k x y S2) P → Q u v H2) :
    tE K mg W fa σ H fun u H1 => tE K mg W fb σ H1 fun v H2 => Q u v H2 := by
  refine ⟨ι, F, S, sl, hz, hs, r, Aft.imp h.bind fun x S1 ι1 F1 H1 ⟨s1, r1, h1⟩ u ru => ?_⟩
  refine ⟨ι1, F1, S1, sl, hz, hs.stp s1, r1, Aft.imp h1.bind fun y S2 ι2 F2 H2 ⟨s2, r2, h2⟩ v rv => ?_⟩
  exact hQ x y S2 ι2 F2 H2 u v (s1.trans s2) r2 (ru.stp s2) rv h2

/-! ### names and constants -/
def var (i : Nat) : DE := fun sl S => match sl[i]? with
  | some (some x) => .ok x S
  | _ => .bad
def cst (x : PyData) : DE := fun _ S => .ok (.d x) S
theorem q_var {i : Nat} (h : PE X e (tVar i)) : QE X W e (var i) := by
  refine PE.imp h fun σ H Q ⟨ι, F, S, sl, hz, hs, r, q⟩ => ?_
  unfold var at q
  split at q
  · rename_i x ex
    obtain ⟨v, e1, rv⟩ := hs i x ex
    exact ⟨v, e1, q ι F H .refl r v rv⟩
  · exact q.elim
theorem q_cst {v : V} {x : PyData} (h : PE X e (tC v)) (d : ∀ F, Dq X.K F v x) : QE X W e (cst x) :=
  PE.imp h fun σ H Q ⟨ι, F, S, sl, hz, hs, r, q⟩ => q ι F H .refl r v (d F)
theorem q_int {i j} : QE X W (.Constant (.int i) j pos) (cst (.int i)) := q_cst pe_int fun _ => .int _
theorem q_bl {i j} : QE X W (.Constant (.bool i) j pos) (cst (.bool i)) := q_cst pe_bl fun _ => .bl _
theorem q_non {j} : QE X W (.Constant .none j pos) (cst .none) := q_cst pe_non fun _ => .non
theorem q_str {i j} : QE X W (.Constant (.str i) j pos) (cst (.str i)) := q_cst pe_str fun _ => .str _

/-! ### operators on data -/
/-- a rule that serves a function of two operands -/
def OpD (K : PySem.W.Frag) (r : R2) (g : PyData → PyData → Option PyData) : Prop :=
  ∀ (F H : Hp) (u v : V) (x y z : PyData) (Q : VK), Same F H → RD K F H u x → RD K F H v y → g x y = some z → (∀ t F' H', Grow F H F' H' → Dq K F' t z → Q t H') → r u v H Q
def okD (o : Option PyData) (S : Sto) : R Val := match o with
  | some z => .ok (.d z) S
  | none => .bad
def two (g : PyData → PyData → Option PyData) (S : Sto) (x y : Val) : R Val := match dat S x, dat S y with
  | some x, some y => okD (g x y) S
  | _, _ => .bad
def bin (g : PyData → PyData → Option PyData) (fa fb : DE) : DE := fun sl S => (fa sl S).bind fun x S1 => (fb sl S1).bind fun y S2 => two g S2 x y
theorem two_ok {K : PySem.W.Frag} {mg : Str → Option Value} {σ : CxSt} {r : R2} {g : PyData → PyData → Option PyData} (hr : OpD K r g) {ι : Nat → Addr} {F H : Hp} {S : Sto} {x y : Val} {u v : V} {Q : VK} (rel : Rel K ι F H S)
    (ru : RV K ι F S.length u x) (rv : RV K ι F S.length v y) (h : Aft K mg W σ ι F H S.length (two g S x y) fun x S' ι' F' H' => ∀ u, RV K ι' F' S'.length u x → Q u H') : r u v H Q := by
  unfold two at h
  split at h
  · rename_i x' y' e1 e2
    unfold okD at h
    split at h
    · rename_i z ez
      exact hr F H u v x' y' z Q rel.sub (ru.dat rel e1) (rv.dat rel e2) ez fun t F' H' g d => h ι F' H' g.stp (rel.grow g) t d
    · exact h.elim
  · exact h.elim
theorem q_two {r : R2} {g : PyData → PyData → Option PyData} (hr : OpD X.K r g) (h : PE X e (tOp r (tE X.K X.mg W fa) (tE X.K X.mg W fb))) : QE X W e (bin g fa fb) := by
  refine PE.imp h fun σ H Q ⟨ι, F, S, sl, hz, hs, rel, q⟩ => ?_
  exact tE.two hz hs rel q fun x y S2 ι2 F2 H2 u v s2 r2 ru rv h2 => two_ok hr r2 ru rv h2
theorem q_bin {op : Operator} {r : R2} {g : PyData → PyData → Option PyData} (ho : OpR X (binaryOp op) r) (hr : OpD X.K r g) (ha : QE X W a fa) (hb : QE X W b fb) : QE X W (.BinOp a op b pos) (bin g fa fb) :=
  q_two hr (pe_op ho ha hb)
theorem q_cmp {op : CmpOp} {r : R2} {g : PyData → PyData → Option PyData} (ho : OpR X (compareOp op) r) (hr : OpD X.K r g) (ha : QE X W a fa) (hb : QE X W b fb) (hm : behindInMarks op b = false) : QE X W (.Compare a [op] [b] pos) (bin g fa fb) :=
  q_two hr (pe_cmpR ho ha hb hm)
/-- a test of a truth value -/
def asB (f : DE) : DB := fun sl S => (f sl S).bind fun x S1 => match x with
  | .d (.bool b) => .ok b S1
  | _ => .bad
theorem asB_ok {K : PySem.W.Frag} {mg : Str → Option Value} {σ : CxSt} {H : Hp} {Q : Bool → Hp → Prop} (h : tB K mg W (asB f) σ H Q) : tE K mg W f σ H fun v H' => ∃ k, v = .bl k ∧ Q k H' := by
  obtain ⟨ι, F, S, sl, hz, hs, rel, q⟩ := h
  refine ⟨ι, F, S, sl, hz, hs, rel, Aft.imp (Aft.bind q) fun x S1 ι1 F1 H1 ⟨s1, r1, h1⟩ u ru => ?_⟩
  split at h1
  · cases ru
    exact ⟨_, rfl, h1 ι1 F1 H1 .refl r1⟩
  · exact h1.elim
theorem t_val (h : QE X W e f) (he : ∀ whole, isTrue e X.env whole = (do let v ← whole; standAt e.pos; holding [v] (truthy v)) := by intro _; rfl) : QT X W e (asB f) :=
  PT.imp (pt_val h he) fun σ H Q q => asB_ok q
theorem t_cmp {op : CmpOp} {r : R2} {g : PyData → PyData → Option PyData} (ho : OpR X (compareOp op) r) (hr : OpD X.K r g) (ha : QE X W a fa) (hb : QE X W b fb) (hm : behindInMarks op b = false) : QT X W (.Compare a [op] [b] pos) (asB (bin g fa fb)) := by
  refine PT.imp (pt_cmpR ho ha hb hm) fun σ H Q q => ?_
  obtain ⟨ι, F, S, sl, hz, hs, rel, q⟩ := asB_ok q
  exact tE.two hz hs rel q fun x y S2 ι2 F2 H2 u v s2 r2 ru rv h2 => two_ok hr r2 ru rv h2
def un (g : PyData → Option PyData) (fa : DE) : DE := fun sl S => (fa sl S).bind fun x S1 => match dat S1 x with
  | some x => okD (g x) S1
  | none => .bad
def UnD (K : PySem.W.Frag) (r : V → Hp → VK → Prop) (g : PyData → Option PyData) : Prop :=
  ∀ (F H : Hp) (u : V) (x z : PyData) (Q : VK), Same F H → RD K F H u x → g x = some z → (∀ t F' H', Grow F H F' H' → Dq K F' t z → Q t H') → r u H Q
theorem un_ok {K : PySem.W.Frag} {mg : Str → Option Value} {σ : CxSt} {r : V → Hp → VK → Prop} {g : PyData → Option PyData} (hr : UnD K r g) {H : Hp} {Q : VK} (h : tE K mg W (un g fa) σ H Q) : tE K mg W fa σ H fun u H1 => r u H1 Q := by
  obtain ⟨ι, F, S, sl, hz, hs, rel, q⟩ := h
  refine ⟨ι, F, S, sl, hz, hs, rel, Aft.imp (Aft.bind q) fun x S1 ι1 F1 H1 ⟨s1, r1, h1⟩ u ru => ?_⟩
  split at h1
  · rename_i x' e1
    unfold okD at h1
    split at h1
    · rename_i z ez
      exact hr F1 H1 u x' z Q r1.sub (ru.dat r1 e1) ez fun t F' H' g d => h1 ι1 F' H' g.stp (r1.grow g) t d
    · exact h1.elim
  · exact h1.elim
theorem q_un {op : UnaryOp} {r : V → Hp → VK → Prop} {g : PyData → Option PyData} (ho : UnR X (unaryOp op) r) (hr : UnD X.K r g) (ha : QE X W a fa) : QE X W (.UnaryOp op a pos) (un g fa) :=
  PE.imp (pe_un ho ha) fun σ H Q q => un_ok hr q

/-! ### and, or, not, if -/
def andB (f g : DB) : DB := fun sl S => (f sl S).bind fun b S1 => if b = true then g sl S1 else .ok false S1
def orB (f g : DB) : DB := fun sl S => (f sl S).bind fun b S1 => if b = true then .ok true S1 else g sl S1
def notB (f : DB) : DB := fun sl S => (f sl S).bind fun b S1 => .ok (!b) S1
variable {ba bb bc : DB} {rest : List Expr}
theorem w_and1 (ha : QT X W a ba) : QW X W (.BoolOp .And [a] pos) ba := pw_and1 ha
theorem w_or1 (ha : QT X W a ba) : QW X W (.BoolOp .Or [a] pos) ba := pw_or1 ha
theorem w_and (ha : QT X W a ba) (hb : QW X W (.BoolOp .And (b :: rest) pos) bb) : QW X W (.BoolOp .And (a :: b :: rest) pos) (andB ba bb) := by
  refine PW.imp (pw_and ha hb) fun σ H Q ⟨ι, F, S, sl, hz, hs, rel, q⟩ => ?_
  refine ⟨ι, F, S, sl, hz, hs, rel, Aft.imp (Aft.bind q) fun k S1 ι1 F1 H1 ⟨s1, r1, h1⟩ => ?_⟩
  cases k with
  | true => exact iteT ⟨ι1, F1, S1, sl, hz, hs.stp s1, r1, by simpa using h1⟩
  | false => exact iteF ((by simpa using h1 : Aft X.K X.mg W σ ι1 F1 H1 S1.length (.ok false S1) _) ι1 F1 H1 .refl r1)
theorem w_or (ha : QT X W a ba) (hb : QW X W (.BoolOp .Or (b :: rest) pos) bb) : QW X W (.BoolOp .Or (a :: b :: rest) pos) (orB ba bb) := by
  refine PW.imp (pw_or ha hb) fun σ H Q ⟨ι, F, S, sl, hz, hs, rel, q⟩ => ?_
  refine ⟨ι, F, S, sl, hz, hs, rel, Aft.imp (Aft.bind q) fun k S1 ι1 F1 H1 ⟨s1, r1, h1⟩ => ?_⟩
  cases k with
  | false => exact iteF ⟨ι1, F1, S1, sl, hz, hs.stp s1, r1, by simpa using h1⟩
  | true => exact iteT ((by simpa using h1 : Aft X.K X.mg W σ ι1 F1 H1 S1.length (.ok true S1) _) ι1 F1 H1 .refl r1)
theorem t_bool {op : BoolOp} (h : QW X W (.BoolOp op es pos) ba) : QT X W (.BoolOp op es pos) ba := PW.pt h
theorem t_not (ha : QT X W a ba) : QT X W (.UnaryOp .Not a pos) (notB ba) := by
  refine PT.imp (pt_not ha) fun σ H Q ⟨ι, F, S, sl, hz, hs, rel, q⟩ => ?_
  exact ⟨ι, F, S, sl, hz, hs, rel, Aft.imp (Aft.bind q) fun k S1 ι1 F1 H1 ⟨s1, r1, h1⟩ => h1 ι1 F1 H1 .refl r1⟩
/-- as values -/
def isB (x : Val) : R Val → R Val := fun r => r
def andV (f g : DE) : DE := fun sl S => (f sl S).bind fun x S1 => match x with
  | .d (.bool true) => g sl S1
  | .d (.bool false) => .ok (.d (.bool false)) S1
  | _ => .bad
def orV (f g : DE) : DE := fun sl S => (f sl S).bind fun x S1 => match x with
  | .d (.bool true) => .ok (.d (.bool true)) S1
  | .d (.bool false) => g sl S1
  | _ => .bad
def notV (f : DE) : DE := fun sl S => (f sl S).bind fun x S1 => match x with
  | .d (.bool b) => .ok (.d (.bool !b)) S1
  | _ => .bad
theorem q_one {op : BoolOp} (ha : QE X W a fa) : QE X W (.BoolOp op [a] pos) fa := pe_one ha
theorem q_and (ha : QE X W a fa) (hb : QE X W (.BoolOp .And (b :: rest) pos) fb) : QE X W (.BoolOp .And (a :: b :: rest) pos) (andV fa fb) := by
  refine PE.imp (pe_and ha hb) fun σ H Q ⟨ι, F, S, sl, hz, hs, rel, q⟩ => ?_
  refine ⟨ι, F, S, sl, hz, hs, rel, Aft.imp (Aft.bind q) fun x S1 ι1 F1 H1 ⟨s1, r1, h1⟩ u ru => ?_⟩
  split at h1
  · cases ru
    exact ⟨true, rfl, iteT ⟨ι1, F1, S1, sl, hz, hs.stp s1, r1, h1⟩⟩
  · cases ru
    exact ⟨false, rfl, iteF (h1 ι1 F1 H1 .refl r1 _ (Dq.bl false))⟩
  · exact h1.elim
theorem q_or (ha : QE X W a fa) (hb : QE X W (.BoolOp .Or (b :: rest) pos) fb) : QE X W (.BoolOp .Or (a :: b :: rest) pos) (orV fa fb) := by
  refine PE.imp (pe_or ha hb) fun σ H Q ⟨ι, F, S, sl, hz, hs, rel, q⟩ => ?_
  refine ⟨ι, F, S, sl, hz, hs, rel, Aft.imp (Aft.bind q) fun x S1 ι1 F1 H1 ⟨s1, r1, h1⟩ u ru => ?_⟩
  split at h1
  · cases ru
    exact ⟨true, rfl, iteT (h1 ι1 F1 H1 .refl r1 _ (Dq.bl true))⟩
  · cases ru
    exact ⟨false, rfl, iteF ⟨ι1, F1, S1, sl, hz, hs.stp s1, r1, h1⟩⟩
  · exact h1.elim
theorem q_not (ha : QE X W a fa) : QE X W (.UnaryOp .Not a pos) (notV fa) := by
  refine PE.imp (pe_not ha) fun σ H Q ⟨ι, F, S, sl, hz, hs, rel, q⟩ => ?_
  refine ⟨ι, F, S, sl, hz, hs, rel, Aft.imp (Aft.bind q) fun x S1 ι1 F1 H1 ⟨s1, r1, h1⟩ u ru => ?_⟩
  split at h1
  · cases ru
    exact ⟨_, rfl, h1 ι1 F1 H1 .refl r1 _ (Dq.bl _)⟩
  · exact h1.elim
def ifE (f : DB) (g h : DE) : DE := fun sl S => (f sl S).bind fun b S1 => if b = true then g sl S1 else h sl S1
theorem q_if (hc : QT X W c ba) (ha : QE X W a fa) (hb : QE X W b fb) : QE X W (.IfExp c a b pos) (ifE ba fa fb) := by
  refine PE.imp (pe_ifExp hc ha hb) fun σ H Q ⟨ι, F, S, sl, hz, hs, rel, q⟩ => ?_
  refine ⟨ι, F, S, sl, hz, hs, rel, Aft.imp (Aft.bind q) fun k S1 ι1 F1 H1 ⟨s1, r1, h1⟩ => ?_⟩
  cases k with
  | true => exact iteT ⟨ι1, F1, S1, sl, hz, hs.stp s1, r1, by simpa using h1⟩
  | false => exact iteF ⟨ι1, F1, S1, sl, hz, hs.stp s1, r1, by simpa using h1⟩
/-- a chain of two comparisons -/
def chain (g g' : PyData → PyData → Option PyData) (fa fb fc : DE) : DE := fun sl S => (fa sl S).bind fun x S1 => (fb sl S1).bind fun y S2 => (two g S2 x y).bind fun z S3 => match z with
  | .d (.bool true) => (fc sl S3).bind fun w S4 => two g' S4 y w
  | .d (.bool false) => .ok (.d (.bool false)) S3
  | _ => .bad

/-! ### argument lists -/
def nilL : DL := fun _ S => .ok [] S
def consL (f : DE) (g : DL) : DL := fun sl S => (f sl S).bind fun x S1 => (g sl S1).bind fun xs S2 => .ok (x :: xs) S2
variable {la : DL}
theorem a_nil : QA X W [] nilL := PA.imp pa_nil fun σ H Q ⟨ι, F, S, sl, hz, hs, rel, q⟩ => q ι F H .refl rel [] .nil
theorem a_cons (ha : QE X W e f) (hr : QA X W es la) (hs : starEach (e :: es) X.env = (false, eval e X.env) :: starEach es X.env := by rfl) : QA X W (e :: es) (consL f la) := by
  refine PA.imp (pa_cons ha hr hs) fun σ H Q ⟨ι, F, S, sl, hz, hs, rel, q⟩ => ?_
  refine ⟨ι, F, S, sl, hz, hs, rel, Aft.imp (Aft.bind q) fun x S1 ι1 F1 H1 ⟨s1, r1, h1⟩ u ru => ?_⟩
  refine ⟨ι1, F1, S1, sl, hz, hs.stp s1, r1, Aft.imp h1.bind fun xs S2 ι2 F2 H2 ⟨s2, r2, h2⟩ us rus => ?_⟩
  exact h2 ι2 F2 H2 .refl r2 _ (.cons (ru.stp s2) rus)
end
end DV
set_option Elab.async false
set_option linter.all false
set_option maxRecDepth 100000
namespace DV
open PySem PySem.Spec PyProof.Rows L2

/-! ### giving away: an owned list becomes data -/
def fzd (S : Sto) : Val → Option PyData
  | .d x => some x
  | .loc j => match S[j]? with
    | some (.frz ds) => some (.list ds)
    | _ => none
def fzds (S : Sto) : List Val → Option (List PyData)
  | [] => some []
  | y :: ys => match fzd S y, fzds S ys with
    | some d, some ds => some (d :: ds)
    | _, _ => none
def eachS (f : Sto → Val → Option Sto) : Sto → List Val → Option Sto
  | S, [] => some S
  | S, y :: ys => match f S y with
    | some S1 => eachS f S1 ys
    | none => none
def frzS : Nat → Sto → Val → Option Sto
  | _, S, .d _ => some S
  | 0, _, .loc _ => none
  | n + 1, S, .loc k => match S[k]? with
    | some (.frz _) => some S
    | some (.lst xs) => match eachS (frzS n) S xs with
      | some S1 => match S1[k]? with
        | some (.lst ys) => match fzds S1 ys with
          | some ds => some (S1.set k (.frz ds))
          | none => none
        | _ => none
      | none => none
    | none => none
def frz (S : Sto) (x : Val) : Option (PyData × Sto) := match x with
  | .d x => some (x, S)
  | .loc k => match frzS 4 S (.loc k) with
    | some S1 => match fzd S1 (.loc k) with
      | some d => some (d, S1)
      | none => none
    | none => none
def frzL : Sto → List Val → Option (List PyData × Sto)
  | S, [] => some ([], S)
  | S, x :: xs => match frz S x with
    | some (d, S1) => match frzL S1 xs with
      | some (ds, S2) => some (d :: ds, S2)
      | none => none
    | none => none
section
variable {K : PySem.W.Frag} {ι : Nat → Addr} {F H : Hp}
/-- a ghost step: nothing but F changes -/
def Gh (K : PySem.W.Frag) (ι : Nat → Addr) (H : Hp) (S : Sto) (F : Hp) (S' : Sto) (F' : Hp) : Prop := S'.length = S.length ∧ Stp ι F H S.length ι F' H S'.length ∧ Rel K ι F' H S'
theorem Gh.trans {S S1 S2 : Sto} {F1 F2 : Hp} (a : Gh K ι H S F S1 F1) (b : Gh K ι H S1 F1 S2 F2) : Gh K ι H S F S2 F2 := ⟨b.1.trans a.1, a.2.1.trans b.2.1, b.2.2⟩
theorem fzds_ok {S : Sto} (rel : Rel K ι F H S) : ∀ {ys : List Val} {ds : List PyData} {vs : List V}, fzds S ys = some ds → RVs K ι F S.length vs ys → DqAll K F vs ds
  | [], ds, vs, e, r => by cases r; simp [fzds] at e; subst e; exact .nil
  | y :: ys, ds, _, e, r => by
    cases r with
    | cons a b =>
      unfold fzds at e
      split at e
      · rename_i d es e1 e2
        cases e
        refine .cons ?_ (fzds_ok rel e2 b)
        cases y with
        | d x => simp [fzd] at e1; subst e1; exact a
        | loc j =>
          unfold fzd at e1
          dsimp only at e1
          split at e1
          · rename_i x q
            cases e1
            obtain ⟨vs, h1, h2⟩ := rel.obj j _ q
            rw [a.2]
            exact .lst h1 h2
          · cases e1
      · cases e
theorem frz_set {S : Sto} {k : Nat} {ys : List Val} {ds : List PyData} (rel : Rel K ι F H S) (e : S[k]? = some (.lst ys)) (ed : fzds S ys = some ds) : ∃ F', Gh K ι H S F (S.set k (.frz ds)) F' := by
  obtain ⟨f0, vs, h1, h2⟩ := rel.obj k _ e
  have hk : k < S.length := (List.getElem?_eq_some_iff.mp e).1
  have dq := fzds_ok rel ed h2
  have ff : Same F (upd F (ι k) (.lst vs)) := fun a o h => by rw [upd_ne (ne_of_none h f0)]; exact h
  have sub : Same (upd F (ι k) (.lst vs)) H := fun a o h => by
    by_cases q : a = ι k
    · subst q; rw [upd_same] at h; cases h; exact h1
    · rw [upd_ne q] at h; exact rel.sub _ _ h
  have fnew : ∀ a o, upd F (ι k) (.lst vs) a = some o → F a = some o ∨ a = ι k := fun a o h => by
    by_cases q : a = ι k
    · exact .inr q
    · rw [upd_ne q] at h; exact .inl h
  refine ⟨upd F (ι k) (.lst vs), List.length_set, ?_, ?_⟩
  · rw [List.length_set]
    exact ⟨Nat.le_refl _, fun _ _ => rfl, ff, fun _ _ h _ => h, fun _ o h => ⟨o, h⟩, fun _ h1 h2 => absurd (Nat.lt_of_le_of_lt h1 h2) (Nat.lt_irrefl _), fun a o h => (fnew a o h).elim .inl fun q => .inr (.inr ⟨k, hk, q.symm⟩)⟩
  · refine ⟨sub, fun i j hi hj => rel.inj i j (by simpa using hi) (by simpa using hj), fun j o ej => ?_⟩
    rw [List.length_set]
    by_cases q : j = k
    · subst q
      rw [List.getElem?_set_self hk] at ej
      cases ej
      exact ⟨vs, upd_same, DqAll.mono ff _ _ dq⟩
    · rw [List.getElem?_set_ne (Ne.symm q)] at ej
      have hj : j < S.length := (List.getElem?_eq_some_iff.mp ej).1
      have := rel.obj j o ej
      cases o with
      | frz x =>
        obtain ⟨ws, g1, g2⟩ := this
        exact ⟨ws, ff _ _ g1, DqAll.mono ff _ _ g2⟩
      | lst xs =>
        obtain ⟨g0, ws, g1, g2⟩ := this
        exact ⟨by rw [upd_ne fun e => q (rel.inj j k hj hk e)]; exact g0, ws, g1, g2.mono (Nat.le_refl _) (fun _ _ => rfl) ff⟩
theorem Gh.refl {S : Sto} (rel : Rel K ι F H S) : Gh K ι H S F S F := ⟨rfl, .refl, rel⟩
theorem frzS_ok : ∀ (n : Nat) {S S' : Sto} {x : Val} {F : Hp}, frzS n S x = some S' → Rel K ι F H S → ∃ F', Gh K ι H S F S' F'
  | n, S, S', .d x, F, e, rel => by
    cases n <;> simp [frzS] at e <;> subst e <;> exact ⟨F, .refl rel⟩
  | 0, S, S', .loc k, F, e, rel => by simp [frzS] at e
  | n + 1, S, S', .loc k, F, e, rel => by
    unfold frzS at e
    split at e
    · cases e; exact ⟨F, .refl rel⟩
    · rename_i xs q
      have each : ∀ (ys : List Val) {T T' : Sto} {G : Hp}, eachS (frzS n) T ys = some T' → Rel K ι G H T → ∃ G', Gh K ι H T G T' G' := by
        intro ys
        induction ys with
        | nil => intro T T' G e r; simp [eachS] at e; subst e; exact ⟨G, .refl r⟩
        | cons y ys ih =>
          intro T T' G e r
          unfold eachS at e
          split at e
          · rename_i T1 e1
            obtain ⟨G1, g1⟩ := frzS_ok n e1 r
            obtain ⟨G2, g2⟩ := ih e g1.2.2
            exact ⟨G2, g1.trans g2⟩
          · cases e
      split at e
      · rename_i S1 e1
        obtain ⟨F1, g1⟩ := each xs e1 rel
        split at e
        · rename_i ys q1
          split at e
          · rename_i ds ed
            cases e
            obtain ⟨F2, g2⟩ := frz_set g1.2.2 q1 ed
            exact ⟨F2, g1.trans g2⟩
          · cases e
        · cases e
      · cases e
    · cases e
theorem frz_ok {S S' : Sto} {x : Val} {d : PyData} {u : V} (e : frz S x = some (d, S')) (rel : Rel K ι F H S) (ru : RV K ι F S.length u x) : ∃ F', Gh K ι H S F S' F' ∧ Dq K F' u d := by
  cases x with
  | d x => simp [frz] at e; obtain ⟨rfl, rfl⟩ := e; exact ⟨F, .refl rel, ru⟩
  | loc k =>
    unfold frz at e
    dsimp only at e
    split at e
    · rename_i S1 e1
      obtain ⟨F1, g1⟩ := frzS_ok 4 e1 rel
      split at e
      · rename_i d' e2
        cases e
        refine ⟨F1, g1, ?_⟩
        unfold fzd at e2
        dsimp only at e2
        split at e2
        · rename_i x q
          cases e2
          rw [ru.2]
          obtain ⟨vs, h1, h2⟩ := g1.2.2.obj k _ q
          exact .lst h1 h2
        · cases e2
      · cases e
    · cases e
theorem frzL_ok : ∀ {xs : List Val} {S S' : Sto} {ds : List PyData} {us : List V} {F : Hp}, frzL S xs = some (ds, S') → Rel K ι F H S → RVs K ι F S.length us xs → ∃ F', Gh K ι H S F S' F' ∧ DqAll K F' us ds
  | [], S, S', ds, us, F, e, rel, r => by
    simp [frzL] at e
    obtain ⟨rfl, rfl⟩ := e
    cases r
    exact ⟨F, .refl rel, .nil⟩
  | x :: xs, S, S', ds, us, F, e, rel, r => by
    cases r with
    | cons a b =>
      unfold frzL at e
      split at e
      · rename_i d S1 e1
        obtain ⟨F1, g1, d1⟩ := frz_ok e1 rel a
        split at e
        · rename_i es S2 e2
          cases e
          obtain ⟨F2, g2, d2⟩ := frzL_ok e2 g1.2.2 (b.stp g1.2.1)
          exact ⟨F2, g1.trans g2, .cons (Dq.mono g2.2.1.ff _ _ d1) d2⟩
        · cases e
      · cases e
theorem frzL_data (S : Sto) : ∀ ds : List PyData, frzL S (ds.map .d) = some (ds, S)
  | [] => rfl
  | d :: ds => by
    show frzL S (.d d :: ds.map .d) = _
    unfold frzL
    simp only [frz, frzL_data S ds]
end
section
variable {K : PySem.W.Frag} {ι : Nat → Addr} {F H : Hp}
/-- a new owned list -/
theorem own_new {S : Sto} {xs : List Val} {us : List V} {p : Addr} (rel : Rel K ι F H S) (hp : H p = none) (rus : RVs K ι F S.length us xs) :
    ∃ ι', Stp ι F H S.length ι' F (upd H p (.lst us)) (S ++ [Ob.lst xs]).length ∧ Rel K ι' F (upd H p (.lst us)) (S ++ [.lst xs]) ∧ ι' S.length = p := by
  have fp : F p = none := rel.sub.free hp
  have hlen : (S ++ [Ob.lst xs]).length = S.length + 1 := by simp
  have hne : ∀ a o, H a = some o → a ≠ p := fun a o h => ne_of_none h hp
  have old : ∀ k, k < S.length → ι k ≠ p := fun k hk e => by
    obtain ⟨o, eo⟩ : ∃ o, S[k]? = some o := ⟨_, List.getElem?_eq_getElem hk⟩
    have := rel.obj k o eo
    cases o with
    | lst ys => obtain ⟨_, vs, g1, _⟩ := this; rw [e, hp] at g1; cases g1
    | frz x => obtain ⟨vs, g1, _⟩ := this; rw [e, fp] at g1; cases g1
  let ι' : Nat → Addr := fun k => if k = S.length then p else ι k
  have ag : ∀ k, k < S.length → ι' k = ι k := fun k hk => if_neg (Nat.ne_of_lt hk)
  have at_ : ι' S.length = p := if_pos rfl
  refine ⟨ι', ?_, ?_, at_⟩
  · refine ⟨by omega, ag, Same.refl _, fun a o h _ => by rw [upd_ne (hne a o h)]; exact h, fun a o h => ⟨o, by rw [upd_ne (hne a o h)]; exact h⟩, fun k h1 h2 => ?_, fun a o h => .inl h⟩
    have : k = S.length := by omega
    rw [this, at_]
    exact hp
  · refine ⟨fun a o h => by rw [upd_ne (hne a o (rel.sub _ _ h))]; exact rel.sub _ _ h, fun i j hi hj e => ?_, fun k o e => ?_⟩
    · rw [hlen] at hi hj
      by_cases qi : i = S.length
      · by_cases qj : j = S.length
        · omega
        · rw [qi, at_, ag j (by omega)] at e
          exact absurd e.symm (old j (by omega))
      · by_cases qj : j = S.length
        · rw [qj, at_, ag i (by omega)] at e
          exact absurd e (old i (by omega))
        · rw [ag i (by omega), ag j (by omega)] at e
          exact rel.inj i j (by omega) (by omega) e
    · rw [hlen]
      by_cases q : k = S.length
      · subst q
        rw [List.getElem?_append_right (Nat.le_refl _)] at e
        simp at e
        subst e
        rw [at_]
        exact ⟨fp, us, upd_same, rus.mono (Nat.le_succ _) ag (Same.refl _)⟩
      · have hk : k < S.length := by
          have := (List.getElem?_eq_some_iff.mp e).1
          rw [hlen] at this
          omega
        rw [List.getElem?_append_left hk] at e
        rw [ag k hk]
        have := rel.obj k o e
        cases o with
        | frz x => exact this
        | lst ys =>
          obtain ⟨g0, ws, g1, g2⟩ := this
          exact ⟨g0, ws, by rw [upd_ne (hne _ _ g1)]; exact g1, g2.mono (Nat.le_succ _) ag (Same.refl _)⟩
end
/-- operands as data, now -/
inductive RDs (K : PySem.W.Frag) (F H : Hp) : List V → List PyData → Prop
  | nil : RDs K F H [] []
  | cons {v : V} {x : PyData} {vs : List V} {xs : List PyData} : RD K F H v x → RDs K F H vs xs → RDs K F H (v :: vs) (x :: xs)
section
variable {X : Cx} {W : WX} {a b c e : Expr} {es : List Expr} {fa fb fc f : DE} {la : DL} {pos p p2 : Pos}

/-! ### displays -/
def tupE (la : DL) : DE := fun sl S => (la sl S).bind fun xs S1 => match frzL S1 xs with
  | some (ds, S2) => if ds.length ≤ sizeLine then .ok (.d (.tuple ds)) S2 else .bad
  | none => .bad
theorem q_tup {x1} (h : QA X W es la) : QE X W (.Tuple es x1 pos) (tupE la) := by
  refine PE.imp (pe_tup h) fun σ H Q ⟨ι, F, S, sl, hz, hs, rel, q⟩ => ?_
  refine ⟨ι, F, S, sl, hz, hs, rel, Aft.imp (Aft.bind q) fun xs S1 ι1 F1 H1 ⟨s1, r1, h1⟩ us rus => ?_⟩
  split at h1
  · rename_i ds S2 e2
    split at h1
    · rename_i hl
      obtain ⟨F2, g2, d2⟩ := frzL_ok e2 r1 rus
      refine ⟨by rw [d2.length]; exact hl, fun q hq => ?_⟩
      have g := Grow.new (o := .tup us) g2.2.2.sub hq
      exact h1 ι1 _ _ (g2.2.1.trans g.stp) (g2.2.2.grow g) _ (.tup (SqT.of upd_same) (DqAll.mono g.ff _ _ d2))
    · exact h1.elim
  · exact h1.elim
/-- a new list: its items -/
abbrev DF := Sl → Sto → R (List Val)
/-- .. kept as an owned list; given away at once -/
def ownE (g : DF) : DE := fun sl S => (g sl S).bind fun xs S1 => .ok (.loc S1.length) (S1 ++ [.lst xs])
def frzE (g : DF) : DE := fun sl S => (g sl S).bind fun xs S1 => match frzL S1 xs with
  | some (ds, S2) => .ok (.d (.list ds)) S2
  | none => .bad
def tF (K : PySem.W.Frag) (mg : Str → Option Value) (W : WX) (g : DF) : TE := fun σ H Q => ∃ ι F S sl, sl.length ≤ σ.length ∧ SlR K ι F S.length σ sl ∧ Rel K ι F H S ∧
  Aft K mg W σ ι F H S.length (g sl S) fun xs S' ι' F' H' => ∀ p us, H' p = none → RVs K ι' F' S'.length us xs → Q (.ref p) (upd H' p (.lst us))
def QF (X : Cx) (W : WX) (e : Expr) (g : DF) : Prop := PE X e (tF X.K X.mg W g)
theorem q_own {g : DF} (h : QF X W e g) : QE X W e (ownE g) := by
  refine PE.imp h fun σ H Q ⟨ι, F, S, sl, hz, hs, rel, q⟩ => ?_
  refine ⟨ι, F, S, sl, hz, hs, rel, Aft.imp (Aft.bind q) fun xs S1 ι1 F1 H1 ⟨s1, r1, h1⟩ p us hp rus => ?_⟩
  obtain ⟨ι', s', r', at_⟩ := own_new r1 hp rus
  exact h1 ι' _ _ s' r' _ ⟨by simp, by rw [at_]⟩
theorem q_frz {g : DF} (h : QF X W e g) : QE X W e (frzE g) := by
  refine PE.imp h fun σ H Q ⟨ι, F, S, sl, hz, hs, rel, q⟩ => ?_
  refine ⟨ι, F, S, sl, hz, hs, rel, Aft.imp (Aft.bind q) fun xs S1 ι1 F1 H1 ⟨s1, r1, h1⟩ p us hp rus => ?_⟩
  split at h1
  · rename_i ds S2 e2
    obtain ⟨F2, g2, d2⟩ := frzL_ok e2 r1 rus
    have g := Grow.new (o := .lst us) g2.2.2.sub hp
    exact h1 ι1 _ _ (g2.2.1.trans g.stp) (g2.2.2.grow g) _ (.lst upd_same (DqAll.mono g.ff _ _ d2))
  · exact h1.elim
/-- [a, b, ..] -/
def szF (g : DF) : DF := fun sl S => (g sl S).bind fun xs S1 => if xs.length ≤ sizeLine then .ok xs S1 else .bad
theorem f_lst (h : QA X W es la) : QF X W (.List es pos) (szF la) := by
  refine PE.imp (pe_lst h) fun σ H Q ⟨ι, F, S, sl, hz, hs, rel, q⟩ => ?_
  refine ⟨ι, F, S, sl, hz, hs, rel, Aft.imp (Aft.bind q) fun xs S1 ι1 F1 H1 ⟨s1, r1, h1⟩ us rus => ?_⟩
  split at h1
  · rename_i hl
    exact ⟨by rw [rus.length]; exact hl, fun p hp => h1 ι1 F1 H1 .refl r1 p us hp rus⟩
  · exact h1.elim

/-! ### built-ins by their names -/
/-- a rule of a call that serves a function of data -/
def CaD (K : PySem.W.Frag) (r : List V → Hp → VK → Prop) (g : List PyData → Option PyData) : Prop :=
  ∀ (F H : Hp) (us : List V) (xs : List PyData) (z : PyData) (Q : VK), Same F H → RDs K F H us xs → g xs = some z → (∀ t F' H', Grow F H F' H' → Dq K F' t z → Q t H') → r us H Q
def dats (S : Sto) : List Val → Option (List PyData)
  | [] => some []
  | x :: xs => match dat S x, dats S xs with
    | some d, some ds => some (d :: ds)
    | _, _ => none
theorem dats_ok {K : PySem.W.Frag} {ι : Nat → Addr} {F H : Hp} {S : Sto} (rel : Rel K ι F H S) : ∀ {xs : List Val} {ds : List PyData} {us : List V}, dats S xs = some ds → RVs K ι F S.length us xs → RDs K F H us ds
  | [], ds, us, e, r => by cases r; simp [dats] at e; subst e; exact .nil
  | x :: xs, ds, us, e, r => by
    cases r with
    | cons a b =>
      unfold dats at e
      split at e
      · rename_i d es e1 e2
        cases e
        exact .cons (a.dat rel e1) (dats_ok rel e2 b)
      · cases e
def blt (g : List PyData → Option PyData) (la : DL) : DE := fun sl S => (la sl S).bind fun xs S1 => match dats S1 xs with
  | some ds => okD (g ds) S1
  | none => .bad
theorem blt_ok {K : PySem.W.Frag} {mg : Str → Option Value} {σ : CxSt} {r : List V → Hp → VK → Prop} {g : List PyData → Option PyData} (hr : CaD K r g) {H : Hp} {Q : VK} (h : tE K mg W (blt g la) σ H Q) : tL K mg W la σ H fun us H1 => r us H1 Q := by
  obtain ⟨ι, F, S, sl, hz, hs, rel, q⟩ := h
  refine ⟨ι, F, S, sl, hz, hs, rel, Aft.imp (Aft.bind q) fun xs S1 ι1 F1 H1 ⟨s1, r1, h1⟩ us rus => ?_⟩
  split at h1
  · rename_i ds e1
    unfold okD at h1
    split at h1
    · rename_i z ez
      exact hr F1 H1 us ds z Q r1.sub (dats_ok r1 e1 rus) ez fun t F' H' g d => h1 ι1 F' H' g.stp (r1.grow g) t d
    · exact h1.elim
  · exact h1.elim
/-- .. with any rule for the call -/
theorem q_blt {r : List V → Hp → VK → Prop} {g : List PyData → Option PyData} {la : DL} (hr : CaD X.K r g) (h : PE X e (tCB r (tL X.K X.mg W la))) : QE X W e (blt g la) := PE.imp h fun σ H Q q => blt_ok hr q
end
end DV
set_option Elab.async false
set_option linter.all false
set_option maxRecDepth 100000
namespace DV
open PySem PySem.Spec PyProof.Rows L2

/-! ### a tuple once -/
theorem tuple_mul1 (l : Addr) (items : Array Value) (n : Nat) (dd : Option Addr) (sl : Array (Option Value)) (u : Tok) :
    Meets (Builtin.«tuple.__mul__» ⟨[.ref l, .int 1 u], []⟩) (fun _ R s => s.heap.get? l = some { cls := .type "tuple", dict := dd, data := .seq items n, slots := sl } ∧
      R (.ok (.ret (Value.ref l))) s) :=
  .of_wp fun prog w A R s h => by
    obtain ⟨hp, g, d, tk, os⟩ := s
    obtain ⟨hl, h⟩ := h
    have f1 := AutoSeq1.idx_int
    have c0 : (decide ((1 : Int) < -(2 ^ 63)) || decide ((1 : Int) ≥ 2 ^ 63)) = false := by decide +kernel
    have c1 : (items.isEmpty || (1 : Int) == 1) = true := by simp
    wp_walk using wpAny_loadPart' hl
    repeat (first
      | (refine wpAny_ite_false (decide_eq_false (by rw [c0]; exact Bool.false_ne_true)) ?_; wp_walk using wpAny_loadPart' hl)
      | (refine wpAny_ite_true (decide_eq_true c1) ?_; wp_walk using wpAny_loadPart' hl))
    exact ⟨_, rfl, h⟩
def rRepT1 (K : PySem.W.Frag) : R2 := fun x y H Q => ∃ l xs, x = .ref l ∧ y = .int 1 ∧ SqT K H l xs ∧ Q (.ref l) H
theorem op_repT1 {X : Cx} : OpR X (binaryOp .Mult) (rRepT1 X.K) := by
  intro pins s σ H x y v u Q I rx ry h
  obtain ⟨l, xs, rfl, rfl, hT, q⟩ := h
  cases rx
  obtain ⟨t, rfl⟩ := ry
  obtain ⟨its, r, ⟨⟨cls, dd, data, sl⟩, ho, hc, n, hd⟩, hs⟩ := I.tuple hT
  simp only at hc hd
  subst hc hd
  refine wpAny_binaryOp_repeat_ref (T := "tuple") (U := "int") (by decide) ⟨_, ho, rfl⟩ (fun s' => typeIs_int s' 1 t) noFill_tuple_mul F.fills_int_mul F.slot_int_rmul repeat_tuple F.slot_int_index.lookup
    (call_meets F.slot_int_rmul (typeIs_int s 1 t) F.entry_int_rmul (F.args_int_rmul_2 _ _) (int_rmul_tuple 1 t l its.toArray n dd sl)
      ⟨ho, rfl, ⟨_, ho, rfl⟩, call_meets F.slot_tuple_mul ⟨_, ho, rfl⟩ F.entry_tuple_mul (F.args_tuple_mul_2 _ _) (tuple_mul1 l its.toArray n dd sl t) ⟨ho, ?_⟩⟩)
  exact ⟨.ref l, H, I, rfl, q⟩
/-! ### + - * // % -/
def addD : PyData → PyData → Option PyData
  | .int i, .int j => some (.int (i + j))
  | .str a, .str b => if a.length + b.length ≤ sizeLine then some (.str (a ++ b)) else none
  | .tuple xs, .tuple ys => if xs.length + ys.length ≤ sizeLine then some (.tuple (xs ++ ys)) else none
  | .list xs, .list ys => if xs.length + ys.length ≤ sizeLine then some (.list (xs ++ ys)) else none
  | _, _ => none
def subD : PyData → PyData → Option PyData
  | .int i, .int j => some (.int (i - j))
  | _, _ => none
def mulD : PyData → PyData → Option PyData
  | .int i, .int j => if i.natAbs.log2 + j.natAbs.log2 < 1000000 then some (.int (i * j)) else none
  | .list xs, .int k => if decide (-(2 ^ 63) ≤ k) && decide (k < 2 ^ 63) && decide (xs.length * k.toNat ≤ sizeLine) then some (.list (List.replicate k.toNat xs).flatten) else none
  | .tuple xs, .int k => if decide (xs ≠ []) && decide (1 ≤ k) && decide (k ≤ 1000) && decide (xs.length ≤ 1000) then some (.tuple (List.replicate k.toNat xs).flatten) else none
  | _, _ => none
def divD : PyData → PyData → Option PyData
  | .int i, .int j => if decide (0 < j) && decide (j.natAbs.log2 < 9000) then some (.int (i / j)) else none
  | _, _ => none
def modD : PyData → PyData → Option PyData
  | .int i, .int j => if 0 < j then some (.int (i % j)) else none
  | _, _ => none
def powD : PyData → PyData → Option PyData
  | .int i, .int j => if decide (0 ≤ j) && decide (j ≤ 1000000) && decide (i.natAbs < 2 ^ 64) then some (.int (i ^ j.toNat)) else none
  | _, _ => none
def negD : PyData → Option PyData
  | .int i => some (.int (-i))
  | _ => none
section
variable {K : PySem.W.Frag} {X : Cx}
theorem DqAll.rep {F : Hp} {vs : List V} {ds : List PyData} (h : DqAll K F vs ds) : ∀ k : Nat, DqAll K F (List.replicate k vs).flatten (List.replicate k ds).flatten
  | 0 => by simp; exact .nil
  | k + 1 => by
    rw [List.replicate_succ, List.replicate_succ, List.flatten_cons, List.flatten_cons]
    exact h.append (h.rep k)
theorem DqAll.nil_iff {F : Hp} {vs : List V} {ds : List PyData} (h : DqAll K F vs ds) : vs = [] ↔ ds = [] := by
  have := h.length
  constructor
  · intro e; rw [e] at this; exact List.eq_nil_of_length_eq_zero this.symm
  · intro e; rw [e] at this; exact List.eq_nil_of_length_eq_zero this
/-- + : ints, texts, tuples, lists -/
def rAddA (K : PySem.W.Frag) : R2 := fun x y H Q => (rI0 fun i j => .int (i + j)) x y H Q ∨ (∃ i j, x = .str i ∧ y = .str j ∧ i.length + j.length ≤ sizeLine ∧ Q (.str (i ++ j)) H) ∨ rCatA K x y H Q ∨ rCat x y H Q
theorem op_addA : OpR X (binaryOp .Add) (rAddA X.K) := op_add.or (op_add_str.or (op_catA.or op_cat))
theorem d_add : OpD K (rAddA K) addD := fun F H u v x y z Q s ru rv e h => by
  unfold addD at e
  split at e
  · cases e
    exact .inl ⟨_, _, ru.int, rv.int, h _ F H (.refl s) (.int _)⟩
  · split at e
    · rename_i hl
      cases e
      exact .inr (.inl ⟨_, _, ru.str, rv.str, hl, h _ F H (.refl s) (.str _)⟩)
    · cases e
  · split at e
    · rename_i hl
      cases e
      obtain ⟨a, vs, rfl, h1, d1⟩ := ru.tuple s
      obtain ⟨b, us, rfl, h2, d2⟩ := rv.tuple s
      refine .inr (.inr (.inl ⟨a, b, vs, us, rfl, rfl, h1, h2, by rw [d1.length, d2.length]; exact hl, fun e => ?_, fun e1 e2 => ?_, fun _ _ p hp => ?_⟩))
      · rw [d1.nil_iff.mp e, List.nil_append] at h
        rcases rv with q | ⟨_, _, _, _, e, _⟩
        · exact h _ F H (.refl s) q
        · cases e
      · rw [d2.nil_iff.mp e2, List.append_nil] at h
        rcases ru with q | ⟨_, _, _, _, e, _⟩
        · exact h _ F H (.refl s) q
        · cases e
      · have g := Grow.new (o := .tup (vs ++ us)) s hp
        exact h _ _ _ g (.tup (SqT.of upd_same) (DqAll.mono g.ff _ _ (d1.append d2)))
    · cases e
  · split at e
    · rename_i hl
      cases e
      obtain ⟨a, vs, rfl, h1, d1⟩ := ru.list s
      obtain ⟨b, us, rfl, h2, d2⟩ := rv.list s
      refine .inr (.inr (.inr ⟨a, b, vs, us, rfl, rfl, h1, h2, by rw [d1.length, d2.length]; exact hl, fun p hp => ?_⟩))
      have g := Grow.new (o := .lst (vs ++ us)) s hp
      exact h _ _ _ g (.lst upd_same (DqAll.mono g.ff _ _ (d1.append d2)))
    · cases e
  · cases e
/-- a rule of ints -/
theorem d_int2 {C : Int → Int → Prop} {gi : Int → Int → Int} {g : PyData → PyData → Option PyData} (hg : ∀ x y z, g x y = some z → ∃ i j, x = .int i ∧ y = .int j ∧ C i j ∧ z = .int (gi i j)) : OpD K (rI C fun i j => .int (gi i j)) g := fun F H u v x y z Q s ru rv e h => by
  obtain ⟨i, j, rfl, rfl, c, rfl⟩ := hg x y z e
  exact ⟨i, j, ru.int, rv.int, c, h _ F H (.refl s) (.int _)⟩
theorem d_sub : OpD K (rI0 fun i j => .int (i - j)) subD := fun F H u v x y z Q s ru rv e h => by
  unfold subD at e
  split at e
  · cases e; exact ⟨_, _, ru.int, rv.int, h _ F H (.refl s) (.int _)⟩
  · cases e
def rMulA (K : PySem.W.Frag) : R2 := fun x y H Q => (rI CMulW fun i j => .int (i * j)) x y H Q ∨ rRep x y H Q ∨ rRepT K x y H Q ∨ rRepT1 K x y H Q
theorem op_mulA : OpR X (binaryOp .Mult) (rMulA X.K) := op_mulW.or (op_rep.or (op_repT.or op_repT1))
theorem d_mul : OpD K (rMulA K) mulD := fun F H u v x y z Q s ru rv e h => by
  unfold mulD at e
  split at e
  · split at e
    · rename_i c
      cases e
      exact .inl ⟨_, _, ru.int, rv.int, c, h _ F H (.refl s) (.int _)⟩
    · cases e
  · rename_i k0
    split at e
    · rename_i c
      cases e
      simp only [Bool.and_eq_true, decide_eq_true_eq] at c
      obtain ⟨a, vs, rfl, h1, d1⟩ := ru.list s
      refine .inr (.inl ⟨a, _, vs, rfl, rv.int, h1, c.1.1, c.1.2, by rw [d1.length]; exact c.2, fun p hp => ?_⟩)
      have g := Grow.new (o := .lst (List.replicate (Int.toNat k0) vs).flatten) s hp
      exact h _ _ _ g (.lst upd_same (DqAll.mono g.ff _ _ (d1.rep _)))
    · cases e
  · rename_i k0
    split at e
    · rename_i c
      cases e
      simp only [Bool.and_eq_true, decide_eq_true_eq] at c
      obtain ⟨a, vs, rfl, h1, d1⟩ := ru.tuple s
      by_cases k2 : 2 ≤ k0
      · refine .inr (.inr (.inl ⟨a, _, vs, rfl, rv.int, h1, fun e => c.1.1.1 (d1.nil_iff.mp e), k2, c.1.2, by rw [d1.length]; exact c.2, fun p hp => ?_⟩))
        have g := Grow.new (o := .tup (List.replicate (Int.toNat k0) vs).flatten) s hp
        exact h _ _ _ g (.tup (SqT.of upd_same) (DqAll.mono g.ff _ _ (d1.rep _)))
      · have e1 : k0 = 1 := by omega
        subst e1
        rcases ru with q | ⟨_, _, _, _, eq, _⟩
        · refine .inr (.inr (.inr ⟨a, vs, rfl, rv.int, h1, h _ F H (.refl s) ?_⟩))
          simpa using q
        · cases eq
    · cases e
  · cases e
theorem d_div : OpD K (rI CDivW fun i j => .int (i / j)) divD := d_int2 (gi := fun i j => i / j) fun x y z e => by
  unfold divD at e
  split at e
  · split at e
    · rename_i c
      cases e
      simp only [Bool.and_eq_true, decide_eq_true_eq] at c
      exact ⟨_, _, rfl, rfl, c, rfl⟩
    · cases e
  · cases e
theorem d_mod : OpD K (rI (fun _ j => 0 < j) fun i j => .int (i % j)) modD := d_int2 (gi := fun i j => i % j) fun x y z e => by
  unfold modD at e
  split at e
  · split at e
    · rename_i c
      cases e
      exact ⟨_, _, rfl, rfl, c, rfl⟩
    · cases e
  · cases e
theorem d_pow : OpD K (rI CPow fun i j => .int (i ^ j.toNat)) powD := d_int2 (gi := fun i j => i ^ j.toNat) fun x y z e => by
  unfold powD at e
  split at e
  · split at e
    · rename_i c
      cases e
      simp only [Bool.and_eq_true, decide_eq_true_eq] at c
      exact ⟨_, _, rfl, rfl, ⟨c.1.1, c.1.2, c.2⟩, rfl⟩
    · cases e
  · cases e
theorem d_neg : UnD K (rU fun i => .int (-i)) negD := fun F H u x z Q s ru e h => by
  unfold negD at e
  split at e
  · cases e; exact ⟨_, ru.int, h _ F H (.refl s) (.int _)⟩
  · cases e

/-! ### comparisons -/
def eqD (x y : PyData) : Option PyData := if SeqAt.shaped x && SeqAt.shaped y then some (.bool (PyData.eqv x y)) else none
def neD (x y : PyData) : Option PyData := if SeqAt.shaped x && SeqAt.shaped y then some (.bool (!PyData.eqv x y)) else none
def cmpI (p : Int → Int → Bool) : PyData → PyData → Option PyData
  | .int i, .int j => some (.bool (p i j))
  | _, _ => none
def isNo : PyData → Bool
  | .none => true
  | _ => false
def isN : PyData → PyData → Option PyData
  | .none, .none => some (.bool true)
  | .bool _, .none | .int _, .none | .str _, .none | .list _, .none | .tuple _, .none | .dict _, .none => some (.bool false)
  | .bool a, .bool b => some (.bool (decide (a = b)))
  | _, _ => none
def notN (x y : PyData) : Option PyData := match isN x y with
  | some (.bool b) => some (.bool !b)
  | _ => none
def inD (x : PyData) : PyData → Option PyData
  | .list ds => if SeqAt.shaped x && SeqAt.shaped (.list ds) then some (.bool (ds.any fun z => PyData.eqv z x)) else none
  | .tuple ds => if SeqAt.shaped x && SeqAt.shaped (.tuple ds) then some (.bool (ds.any fun z => PyData.eqv z x)) else none
  | _ => none
def notInD (x y : PyData) : Option PyData := match inD x y with
  | some (.bool b) => some (.bool !b)
  | _ => none
theorem lay_of {d : PyData} (h : SeqAt.shaped d = true) : d.canLay0 = true := SeqAt.canLay_of_shaped h
theorem d_eq : OpD K (rEqD K) eqD := fun F H u v x y z Q s ru rv e h => by
  unfold eqD at e
  split at e
  · rename_i c
    cases e
    obtain ⟨c1, c2⟩ := Bool.and_eq_true_iff.mp c
    exact ⟨x, y, (ru.dp s).dp (lay_of c1), (rv.dp s).dp (lay_of c2), c1, c2, h _ F H (.refl s) (.bl _)⟩
  · cases e
theorem d_ne : OpD K (rNeD K) neD := fun F H u v x y z Q s ru rv e h => by
  unfold neD at e
  split at e
  · rename_i c
    cases e
    obtain ⟨c1, c2⟩ := Bool.and_eq_true_iff.mp c
    exact ⟨x, y, (ru.dp s).dp (lay_of c1), (rv.dp s).dp (lay_of c2), c1, c2, h _ F H (.refl s) (.bl _)⟩
  · cases e
theorem d_cmp {p : Int → Int → Bool} : OpD K (rI0 fun i j => .bl (p i j)) (cmpI p) := fun F H u v x y z Q s ru rv e h => by
  unfold cmpI at e
  split at e
  · cases e; exact ⟨_, _, ru.int, rv.int, h _ F H (.refl s) (.bl _)⟩
  · cases e
def rIsA : R2 := fun x y H Q => (y = .non ∧ Q (.bl (decide (x = .non))) H) ∨ rIsB x y H Q
def rNotA : R2 := fun x y H Q => (y = .non ∧ Q (.bl (!decide (x = .non))) H) ∨ rNotB x y H Q
theorem op_isA : OpR X (compareOp .Is) rIsA := op_isN.or op_isBl
theorem op_notA : OpR X (compareOp .IsNot) rNotA := op_notN.or op_notBl
theorem RD.ne_non {F H : Hp} {v : V} {x : PyData} (r : RD K F H v x) (e : x ≠ .none) : v ≠ .non := by
  rintro rfl
  rcases r with r | ⟨_, _, _, q, _⟩
  · cases r; exact e rfl
  · cases q
theorem isN_cases {x y z : PyData} (e : isN x y = some z) : (y = .none ∧ z = .bool (isNo x)) ∨ ∃ a b, x = .bool a ∧ y = .bool b ∧ z = .bool (decide (a = b)) := by
  cases y with
  | none => cases x <;> simp [isN] at e <;> subst e <;> exact .inl ⟨rfl, rfl⟩
  | bool b => cases x <;> simp [isN] at e <;> subst e <;> exact .inr ⟨_, _, rfl, rfl, rfl⟩
  | _ => cases x <;> simp [isN] at e
theorem d_is : OpD K rIsA isN := fun F H u v x y z Q s ru rv e h => by
  rcases isN_cases e with ⟨rfl, rfl⟩ | ⟨a, b, rfl, rfl, rfl⟩
  · refine .inl ⟨rv.non, ?_⟩
    cases x with
    | none => rw [ru.non]; exact h _ F H (.refl s) (.bl _)
    | _ => rw [decide_eq_false (ru.ne_non (by intro q; cases q))]; exact h _ F H (.refl s) (.bl _)
  · exact .inr ⟨a, b, ru.bl, rv.bl, h _ F H (.refl s) (.bl _)⟩
theorem d_isnot : OpD K rNotA notN := fun F H u v x y z Q s ru rv e h => by
  unfold notN at e
  split at e
  · rename_i b eb
    cases e
    rcases isN_cases eb with ⟨rfl, q⟩ | ⟨a, c, rfl, rfl, q⟩
    · refine .inl ⟨rv.non, ?_⟩
      cases q
      cases x with
      | none => rw [ru.non]; exact h _ F H (.refl s) (.bl _)
      | _ => rw [decide_eq_false (ru.ne_non (by intro q; cases q))]; exact h _ F H (.refl s) (.bl _)
    · cases q
      exact .inr ⟨a, c, ru.bl, rv.bl, h _ F H (.refl s) (.bl _)⟩
  · cases e
def rInA (K : PySem.W.Frag) : R2 := fun x y H Q => ∃ d ds, (Dp K H y (.list ds) ∧ SeqAt.shaped (.list ds) = true ∨ Dp K H y (.tuple ds) ∧ SeqAt.shaped (.tuple ds) = true) ∧ Dp K H x d ∧ SeqAt.shaped d = true ∧ Q (.bl (ds.any fun z => PyData.eqv z d)) H
def rNotInA (K : PySem.W.Frag) : R2 := fun x y H Q => ∃ d ds, (Dp K H y (.list ds) ∧ SeqAt.shaped (.list ds) = true ∨ Dp K H y (.tuple ds) ∧ SeqAt.shaped (.tuple ds) = true) ∧ Dp K H x d ∧ SeqAt.shaped d = true ∧ Q (.bl (!ds.any fun z => PyData.eqv z d)) H
theorem op_inA (hu : X.A.units + 65 < cLine) : OpR X (compareOp .In) (rInA X.K) := by
  intro pins s σ H x y v u Q I rx ry h
  obtain ⟨d, ds, hy, hd, sd, q⟩ := h
  obtain ⟨as, r1⟩ := Dp.reads I d x v hd rx
  rcases hy with ⟨he, se⟩ | ⟨he, se⟩
  · obtain ⟨bs, r2⟩ := Dp.reads I (.list ds) y u he ry
    exact SeqAt.in_list_reads r2 r1 (SeqAt.canLay_of_shaped se) (SeqAt.canLay_of_shaped sd) (room_in_shaped sd hu) ⟨.bl _, H, I, rfl, q⟩
  · obtain ⟨bs, r2⟩ := Dp.reads I (.tuple ds) y u he ry
    exact SeqAt.in_tuple_reads r2 r1 (SeqAt.canLay_of_shaped se) (SeqAt.canLay_of_shaped sd) (room_in_shaped sd hu) ⟨.bl _, H, I, rfl, q⟩
theorem op_notInA (hu : X.A.units + 65 < cLine) : OpR X (compareOp .NotIn) (rNotInA X.K) := by
  intro pins s σ H x y v u Q I rx ry h
  obtain ⟨d, ds, hy, hd, sd, q⟩ := h
  obtain ⟨as, r1⟩ := Dp.reads I d x v hd rx
  rcases hy with ⟨he, se⟩ | ⟨he, se⟩
  · obtain ⟨bs, r2⟩ := Dp.reads I (.list ds) y u he ry
    exact SeqAt.notIn_list_reads r2 r1 (SeqAt.canLay_of_shaped se) (SeqAt.canLay_of_shaped sd) (room_in_shaped sd hu) ⟨.bl _, H, I, rfl, q⟩
  · obtain ⟨bs, r2⟩ := Dp.reads I (.tuple ds) y u he ry
    exact SeqAt.notIn_tuple_reads r2 r1 (SeqAt.canLay_of_shaped se) (SeqAt.canLay_of_shaped sd) (room_in_shaped sd hu) ⟨.bl _, H, I, rfl, q⟩
theorem inD_cases {x y z : PyData} (e : inD x y = some z) : ∃ ds, (y = .list ds ∧ SeqAt.shaped (.list ds) = true ∨ y = .tuple ds ∧ SeqAt.shaped (.tuple ds) = true) ∧ SeqAt.shaped x = true ∧ z = .bool (ds.any fun z => PyData.eqv z x) := by
  unfold inD at e
  split at e
  · split at e
    · rename_i c
      cases e
      obtain ⟨c1, c2⟩ := Bool.and_eq_true_iff.mp c
      exact ⟨_, .inl ⟨rfl, c2⟩, c1, rfl⟩
    · cases e
  · split at e
    · rename_i c
      cases e
      obtain ⟨c1, c2⟩ := Bool.and_eq_true_iff.mp c
      exact ⟨_, .inr ⟨rfl, c2⟩, c1, rfl⟩
    · cases e
  · cases e
theorem d_in : OpD K (rInA K) inD := fun F H u v x y z Q s ru rv e h => by
  obtain ⟨ds, hy, c, rfl⟩ := inD_cases e
  refine ⟨x, ds, ?_, (ru.dp s).dp (lay_of c), c, h _ F H (.refl s) (.bl _)⟩
  rcases hy with ⟨rfl, c2⟩ | ⟨rfl, c2⟩
  · exact .inl ⟨(rv.dp s).dp (lay_of c2), c2⟩
  · exact .inr ⟨(rv.dp s).dp (lay_of c2), c2⟩
theorem d_notin : OpD K (rNotInA K) notInD := fun F H u v x y z Q s ru rv e h => by
  unfold notInD at e
  split at e
  · rename_i b eb
    cases e
    obtain ⟨ds, hy, c, q⟩ := inD_cases eb
    cases q
    refine ⟨x, ds, ?_, (ru.dp s).dp (lay_of c), c, h _ F H (.refl s) (.bl _)⟩
    rcases hy with ⟨rfl, c2⟩ | ⟨rfl, c2⟩
    · exact .inl ⟨(rv.dp s).dp (lay_of c2), c2⟩
    · exact .inr ⟨(rv.dp s).dp (lay_of c2), c2⟩
  · cases e

/-! ### built-ins -/
theorem RDs.one {F H : Hp} {us : List V} {x : PyData} (h : RDs K F H us [x]) : ∃ u, us = [u] ∧ RD K F H u x := by
  cases h with
  | cons a b => cases b; exact ⟨_, rfl, a⟩
theorem RDs.two {F H : Hp} {us : List V} {x y : PyData} (h : RDs K F H us [x, y]) : ∃ u v, us = [u, v] ∧ RD K F H u x ∧ RD K F H v y := by
  cases h with
  | cons a b =>
    cases b with
    | cons c d => cases d; exact ⟨_, _, rfl, a, c⟩
def lenD : List PyData → Option PyData
  | [.list ds] => some (.int ds.length)
  | [.tuple ds] => some (.int ds.length)
  | [.dict [(.none, .list ds)]] => some (.int ds.length)
  | [.str x] => if x.length ≤ sizeLine then some (.int x.length) else none
  | _ => none
def rLenA (K : PySem.W.Frag) : List V → Hp → VK → Prop := fun xs H Q => (∃ p ys, xs = [.ref p] ∧ (SqL K H p ys ∨ SqT K H p ys) ∧ Q (.int ys.length) H) ∨ ∃ z, xs = [.str z] ∧ z.length ≤ sizeLine ∧ Q (.int z.length) H
theorem call_lenA : CallR X (.builtin "len") (rLenA X.K) := call_len_seq.or call_len_str
theorem d_len : CaD K (rLenA K) lenD := fun F H us xs z Q s r e h => by
  unfold lenD at e
  split at e
  · cases e
    obtain ⟨u, rfl, ru⟩ := r.one
    obtain ⟨a, vs, rfl, h1, d1⟩ := ru.list s
    exact .inl ⟨a, vs, rfl, .inl (SqL.of h1), by rw [d1.length]; exact h _ F H (.refl s) (.int _)⟩
  · cases e
    obtain ⟨u, rfl, ru⟩ := r.one
    obtain ⟨a, vs, rfl, h1, d1⟩ := ru.tuple s
    exact .inl ⟨a, vs, rfl, .inr h1, by rw [d1.length]; exact h _ F H (.refl s) (.int _)⟩
  · cases e
    obtain ⟨u, rfl, ru⟩ := r.one
    obtain ⟨a, vs, rfl, h1, d1⟩ := ru.scr s
    exact .inl ⟨a, vs, rfl, .inl h1, by rw [d1.length]; exact h _ F H (.refl s) (.int _)⟩
  · split at e
    · rename_i hl
      cases e
      obtain ⟨u, rfl, ru⟩ := r.one
      obtain rfl := ru.str
      exact .inr ⟨_, rfl, hl, h _ F H (.refl s) (.int _)⟩
    · cases e
  · cases e
def absD : List PyData → Option PyData
  | [.int i] => some (.int (if i < 0 then -i else i))
  | _ => none
theorem d_abs : CaD K (fun xs H Q => ∃ i, xs = [.int i] ∧ Q (.int (if i < 0 then -i else i)) H) absD := fun F H us xs z Q s r e h => by
  unfold absD at e
  split at e
  · cases e
    obtain ⟨u, rfl, ru⟩ := r.one
    exact ⟨_, by rw [ru.int], h _ F H (.refl s) (.int _)⟩
  · cases e
def maxD2 : List PyData → Option PyData
  | [.int i, .int j] => some (.int (if j > i then j else i))
  | _ => none
def minD2 : List PyData → Option PyData
  | [.int i, .int j] => some (.int (if j < i then j else i))
  | _ => none
theorem d_max2 : CaD K (fun xs H Q => ∃ i j, xs = [.int i, .int j] ∧ Q (.int (if j > i then j else i)) H) maxD2 := fun F H us xs z Q s r e h => by
  unfold maxD2 at e
  split at e
  · cases e
    obtain ⟨u, v, rfl, ru, rv⟩ := r.two
    exact ⟨_, _, by rw [ru.int, rv.int], h _ F H (.refl s) (.int _)⟩
  · cases e
theorem d_min2 : CaD K (fun xs H Q => ∃ i j, xs = [.int i, .int j] ∧ Q (.int (if j < i then j else i)) H) minD2 := fun F H us xs z Q s r e h => by
  unfold minD2 at e
  split at e
  · cases e
    obtain ⟨u, v, rfl, ru, rv⟩ := r.two
    exact ⟨_, _, by rw [ru.int, rv.int], h _ F H (.refl s) (.int _)⟩
  · cases e
def intD : List PyData → Option PyData
  | [.int i] => some (.int i)
  | [.bool b] => some (.int (if b then 1 else 0))
  | _ => none
theorem d_int1 : CaD K (fun xs H Q => (∃ i, xs = [.int i] ∧ Q (.int i) H) ∨ ∃ k, xs = [.bl k] ∧ Q (.int (if k then 1 else 0)) H) intD := fun F H us xs z Q s r e h => by
  unfold intD at e
  split at e
  · cases e
    obtain ⟨u, rfl, ru⟩ := r.one
    exact .inl ⟨_, by rw [ru.int], h _ F H (.refl s) (.int _)⟩
  · cases e
    obtain ⟨u, rfl, ru⟩ := r.one
    exact .inr ⟨_, by rw [ru.bl], h _ F H (.refl s) (.int _)⟩
  · cases e
def tupD : List PyData → Option PyData
  | [.list ds] => some (.tuple ds)
  | [.tuple ds] => some (.tuple ds)
  | _ => none
theorem d_tuple : CaD K (fun xs H Q => ∃ p ys, xs = [.ref p] ∧ ((SqL K H p ys ∧ ∀ l, H l = none → Q (.ref l) (upd H l (.tup ys))) ∨ (SqT K H p ys ∧ Q (.ref p) H))) tupD := fun F H us xs z Q s r e h => by
  unfold tupD at e
  split at e
  · cases e
    obtain ⟨u, rfl, ru⟩ := r.one
    obtain ⟨a, vs, rfl, h1, d1⟩ := ru.list s
    refine ⟨a, vs, rfl, .inl ⟨SqL.of h1, fun l hl => ?_⟩⟩
    have g := Grow.new (o := .tup vs) s hl
    exact h _ _ _ g (.tup (SqT.of upd_same) (DqAll.mono g.ff _ _ d1))
  · cases e
    obtain ⟨u, rfl, ru⟩ := r.one
    obtain ⟨a, vs, rfl, h1, d1⟩ := ru.tuple s
    refine ⟨a, vs, rfl, .inr ⟨h1, ?_⟩⟩
    rcases ru with q | ⟨_, _, _, _, e, _⟩
    · exact h _ F H (.refl s) q
    · cases e
  · cases e
def bools : List PyData → Option (List Bool)
  | [] => some []
  | .bool b :: r => (bools r).map (b :: ·)
  | _ => none
theorem bools_eq : ∀ {xs : List PyData} {bs : List Bool}, bools xs = some bs → xs = bs.map .bool
  | [], bs, e => by simp [bools] at e; subst e; rfl
  | .bool b :: r, bs, e => by
    simp only [bools, Option.map_eq_some_iff] at e
    obtain ⟨cs, e1, rfl⟩ := e
    rw [bools_eq e1] <;> rfl
  | .none :: _, _, e | .int _ :: _, _, e | .str _ :: _, _, e | .list _ :: _, _, e | .tuple _ :: _, _, e | .dict _ :: _, _, e => by simp [bools] at e
def intsOf : List PyData → Option (List Int)
  | [] => some []
  | .int b :: r => (intsOf r).map (b :: ·)
  | _ => none
theorem intsOf_eq : ∀ {xs : List PyData} {bs : List Int}, intsOf xs = some bs → xs = bs.map .int
  | [], bs, e => by simp [intsOf] at e; subst e; rfl
  | .int b :: r, bs, e => by
    simp only [intsOf, Option.map_eq_some_iff] at e
    obtain ⟨cs, e1, rfl⟩ := e
    rw [intsOf_eq e1] <;> rfl
  | .none :: _, _, e | .bool _ :: _, _, e | .str _ :: _, _, e | .list _ :: _, _, e | .tuple _ :: _, _, e | .dict _ :: _, _, e => by simp [intsOf] at e
def allBD : List PyData → Option PyData
  | [.list ds] => (bools ds).map fun bs => .bool (bs.all id)
  | _ => none
def anyBD : List PyData → Option PyData
  | [.list ds] => (bools ds).map fun bs => .bool (bs.any id)
  | _ => none
def sumD : List PyData → Option PyData
  | [.list ds] => (intsOf ds).map fun bs => .int bs.sum
  | _ => none
theorem d_all : CaD K (rAll K) allBD := fun F H us xs z Q s r e h => by
  unfold allBD at e
  split at e
  · simp only [Option.map_eq_some_iff] at e
    obtain ⟨bs, e1, rfl⟩ := e
    obtain ⟨u, rfl, ru⟩ := r.one
    rw [bools_eq e1] at ru
    obtain ⟨a, vs, rfl, h1, d1⟩ := ru.list s
    rw [d1.bls] at h1
    exact ⟨a, bs, rfl, SqL.of h1, h _ F H (.refl s) (.bl _)⟩
  · cases e
theorem d_any : CaD K (rAny K) anyBD := fun F H us xs z Q s r e h => by
  unfold anyBD at e
  split at e
  · simp only [Option.map_eq_some_iff] at e
    obtain ⟨bs, e1, rfl⟩ := e
    obtain ⟨u, rfl, ru⟩ := r.one
    rw [bools_eq e1] at ru
    obtain ⟨a, vs, rfl, h1, d1⟩ := ru.list s
    rw [d1.bls] at h1
    exact ⟨a, bs, rfl, SqL.of h1, h _ F H (.refl s) (.bl _)⟩
  · cases e
theorem d_sum : CaD K (rSum K) sumD := fun F H us xs z Q s r e h => by
  unfold sumD at e
  split at e
  · simp only [Option.map_eq_some_iff] at e
    obtain ⟨bs, e1, rfl⟩ := e
    obtain ⟨u, rfl, ru⟩ := r.one
    rw [intsOf_eq e1] at ru
    obtain ⟨a, vs, rfl, h1, d1⟩ := ru.list s
    rw [d1.ints] at h1
    exact ⟨a, bs, rfl, SqL.of h1, h _ F H (.refl s) (.int _)⟩
  · cases e
def strD : List PyData → Option PyData
  | [.int i] => if i.natAbs.log2 < 1920 then some (.str (toString i)) else none
  | _ => none
theorem d_str : CaD K (fun xs H Q => ∃ i, xs = [.int i] ∧ i.natAbs.log2 < 1920 ∧ Q (.str (toString i)) H) strD := fun F H us xs z Q s r e h => by
  unfold strD at e
  split at e
  · split at e
    · rename_i c
      cases e
      obtain ⟨u, rfl, ru⟩ := r.one
      exact ⟨_, by rw [ru.int], c, h _ F H (.refl s) (.str _)⟩
    · cases e
  · cases e
end
end DV
set_option Elab.async false
set_option linter.all false
set_option maxRecDepth 100000
namespace DV
open PySem PySem.Spec PyProof.Rows L2

/-! ### places -/
def optD (o : Option PyData) (S : Sto) : R Val := okD o S
def ixV (S : Sto) (x y : Val) : R Val := match y with
  | .d (.int i) => match x with
    | .d (.list ds) => okD (atI ds i) S
    | .d (.tuple ds) => okD (atI ds i) S
    | .d (.dict [(.none, .list ds)]) => okD (atI ds i) S
    | .d (.str z) => if z.length ≤ sizeLine then okD ((atI z.cps.toList i).map fun c => .str ⟨#[c]⟩) S else .bad
    | .loc k => match S[k]? with
      | some (.lst xs) => match atI xs i with
        | some v => .ok v S
        | none => .bad
      | some (.frz ds) => okD (atI ds i) S
      | none => .bad
    | _ => .bad
  | _ => .bad
def ixE (fa fb : DE) : DE := fun sl S => (fa sl S).bind fun x S1 => (fb sl S1).bind fun y S2 => ixV S2 x y
section
variable {K : PySem.W.Frag} {ι : Nat → Addr} {F H : Hp} {n : Nat}
theorem atI_len {α β : Type} {xs : List α} {ys : List β} (h : xs.length = ys.length) {i : Int} {y : β} (e : atI ys i = some y) : ∃ j, ixN xs.length i = some j ∧ ys[j]? = some y := by
  unfold atI at e
  cases q : ixN ys.length i with
  | none => rw [q] at e; cases e
  | some j => rw [q] at e; exact ⟨j, by rw [h]; exact q, e⟩
theorem DqAll.at {vs : List V} {ds : List PyData} (h : DqAll K F vs ds) {i : Int} {d : PyData} (e : atI ds i = some d) : ∃ v, atI vs i = some v ∧ Dq K F v d := by
  obtain ⟨j, e1, e2⟩ := atI_len h.length e
  obtain ⟨v, e3, q⟩ := h.get e2
  exact ⟨v, by unfold atI; rw [e1]; exact e3, q⟩
theorem RVs.at {vs : List V} {xs : List Val} (h : RVs K ι F n vs xs) {i : Int} {d : Val} (e : atI xs i = some d) : ∃ v, atI vs i = some v ∧ RV K ι F n v d := by
  obtain ⟨j, e1, e2⟩ := atI_len h.length e
  obtain ⟨v, e3, q⟩ := h.get e2
  exact ⟨v, by unfold atI; rw [e1]; exact e3, q⟩
theorem okD_ok {mg : Str → Option Value} {W : WX} {σ : CxSt} {o : Option PyData} {S : Sto} {P : Val → Sto → (Nat → Addr) → Hp → Hp → Prop} (h : Aft K mg W σ ι F H S.length (okD o S) P) (rel : Rel K ι F H S) : ∃ z, o = some z ∧ P (.d z) S ι F H := by
  cases o with
  | none => exact h.elim
  | some z => exact ⟨z, rfl, h ι F H .refl rel⟩
theorem ixV_ok {mg : Str → Option Value} {W : WX} {σ : CxSt} {S : Sto} {x y : Val} {u v : V} {Q : VK} (rel : Rel K ι F H S)
    (ru : RV K ι F S.length u x) (rv : RV K ι F S.length v y) (h : Aft K mg W σ ι F H S.length (ixV S x y) fun x S' ι' F' H' => ∀ u, RV K ι' F' S'.length u x → Q u H') : rIx K u v H Q := by
  unfold ixV at h
  split at h
  · rename_i i
    cases rv
    split at h
    · rename_i ds
      obtain ⟨z, e, k⟩ := okD_ok h rel
      cases ru with
      | lst q r =>
        obtain ⟨w, e1, d1⟩ := r.at e
        exact .inl ⟨_, _, i, w, rfl, rfl, SqL.of (rel.sub _ _ q), e1, k w d1⟩
    · rename_i ds
      obtain ⟨z, e, k⟩ := okD_ok h rel
      cases ru with
      | tup q r =>
        obtain ⟨w, e1, d1⟩ := r.at e
        exact .inr (.inl ⟨_, _, i, w, rfl, rfl, SqT.mono rel.sub q, e1, k w d1⟩)
    · rename_i ds
      obtain ⟨z, e, k⟩ := okD_ok h rel
      obtain ⟨a, vs, rfl, q, r⟩ := RD.scr rel.sub (.inl ru)
      obtain ⟨w, e1, d1⟩ := r.at e
      exact .inl ⟨_, _, i, w, rfl, rfl, q, e1, k w d1⟩
    · split at h
      · rename_i z hl
        obtain ⟨z', e, k⟩ := okD_ok h rel
        simp only [Option.map_eq_some_iff] at e
        obtain ⟨c, e, rfl⟩ := e
        cases ru
        exact .inr (.inr ⟨_, i, c, rfl, rfl, hl, e, k _ (.str _)⟩)
      · exact h.elim
    · rename_i k0
      obtain ⟨hk, rfl⟩ := ru
      split at h
      · rename_i xs q
        split at h
        · rename_i v' e
          obtain ⟨_, vs, h1, h2⟩ := rel.obj _ _ q
          obtain ⟨w, e1, d1⟩ := h2.at e
          exact .inl ⟨_, vs, i, w, rfl, rfl, SqL.of h1, e1, h ι F H .refl rel w d1⟩
        · exact h.elim
      · rename_i ds q
        obtain ⟨z, e, k⟩ := okD_ok h rel
        obtain ⟨vs, h1, h2⟩ := rel.obj _ _ q
        obtain ⟨w, e1, d1⟩ := h2.at e
        exact .inl ⟨_, vs, i, w, rfl, rfl, SqL.of (rel.sub _ _ h1), e1, k w d1⟩
      · exact h.elim
    · exact h.elim
  · exact h.elim
end
section
variable {X : Cx} {W : WX} {a b c e : Expr} {es : List Expr} {fa fb fc f : DE} {la : DL} {pos p p2 : Pos}
theorem q_ix (ha : QE X W a fa) (hb : QE X W b fb) (hs : PlainIx b) : QE X W (.Subscript a b pos) (ixE fa fb) := by
  refine PE.imp (pe_ix ix_seq ha hb hs) fun σ H Q ⟨ι, F, S, sl, hz, hs, rel, q⟩ => ?_
  exact tE.two hz hs rel q fun x y S2 ι2 F2 H2 u v s2 r2 ru rv h2 => ixV_ok r2 ru rv h2

/-! ### slices -/
abbrev DO := Sl → Sto → R (Option Int)
def tOo (K : PySem.W.Frag) (mg : Str → Option Value) (W : WX) (f : DO) : TO := fun σ H Q => ∃ ι F S sl, sl.length ≤ σ.length ∧ SlR K ι F S.length σ sl ∧ Rel K ι F H S ∧
  Aft K mg W σ ι F H S.length (f sl S) fun b S' ι' F' H' => Q b H'
def QO (X : Cx) (W : WX) (e : Option Expr) (f : DO) : Prop := PO X e (tOo X.K X.mg W f)
def noO : DO := fun _ S => .ok none S
def someO (f : DE) : DO := fun sl S => (f sl S).bind fun x S1 => match x with
  | .d (.int i) => .ok (some i) S1
  | _ => .bad
theorem o_none : QO X W none noO := ⟨fun pins s σ H Q vI h => po_none.run pins s σ H Q vI (by
  obtain ⟨ι, F, S, sl, hz, hs, rel, q⟩ := h
  exact q ι F H .refl rel)⟩
theorem o_some (h : QE X W e f) : QO X W (some e) (someO f) := ⟨fun pins s σ H Q vI hh => (po_some h).run pins s σ H Q vI (by
  obtain ⟨ι, F, S, sl, hz, hs, rel, q⟩ := hh
  refine ⟨ι, F, S, sl, hz, hs, rel, Aft.imp (Aft.bind q) fun x S1 ι1 F1 H1 ⟨s1, r1, h1⟩ u ru => ?_⟩
  split at h1
  · cases ru
    exact ⟨_, rfl, h1 ι1 F1 H1 .refl r1⟩
  · exact h1.elim)⟩
def cutD (xs : List PyData) (lo hi : Option Int) : List PyData := (xs.drop (HT.sIx xs.length 0 lo)).take (HT.sIx xs.length xs.length hi - HT.sIx xs.length 0 lo)
def cutX {α : Type} (xs : List α) (lo hi : Option Int) : List α := (xs.drop (HT.sIx xs.length 0 lo)).take (HT.sIx xs.length xs.length hi - HT.sIx xs.length 0 lo)
def slV (S : Sto) (x : Val) (lo hi : Option Int) : R Val := match dat S x with
  | some (.list ds) => .ok (.d (.list (cutX ds lo hi))) S
  | some (.tuple ds) => .ok (.d (.tuple (cutX ds lo hi))) S
  | _ => .bad
def slE (fa : DE) (fl fh : DO) : DE := fun sl S => (fa sl S).bind fun x S1 => (fl sl S1).bind fun lo S2 => (fh sl S2).bind fun hi S3 => slV S3 x lo hi
def rSlB (K : PySem.W.Frag) : V → Option Int → Option Int → Hp → VK → Prop := fun x lo hi H Q => rSlL K x lo hi H Q ∨ rSlA K x lo hi H Q
theorem sl_both : L2.SlR X (rSlB X.K) := sl_list.or sl_tupA
theorem DqAll.cut {K : PySem.W.Frag} {F : Hp} {vs : List V} {ds : List PyData} (h : DqAll K F vs ds) (lo hi : Option Int) : DqAll K F (cutV vs lo hi) (cutX ds lo hi) := by
  unfold cutV cutX
  rw [h.length]
  exact DqAll.take _ (DqAll.drop _ h)
theorem q_sl {lo hi : Option Expr} {fl fh : DO} (ha : QE X W a fa) (hl : QO X W lo fl) (hh : QO X W hi fh) : QE X W (.Subscript a (.Slice lo hi none p2) pos) (slE fa fl fh) := by
  refine PE.imp (pe_slice sl_both ha hl hh) fun σ H Q ⟨ι, F, S, sl, hz, hs, rel, q⟩ => ?_
  refine ⟨ι, F, S, sl, hz, hs, rel, Aft.imp (Aft.bind q) fun x S1 ι1 F1 H1 ⟨s1, r1, h1⟩ u ru => ?_⟩
  refine ⟨ι1, F1, S1, sl, hz, hs.stp s1, r1, Aft.imp h1.bind fun l S2 ι2 F2 H2 ⟨s2, r2, h2⟩ => ?_⟩
  refine ⟨ι2, F2, S2, sl, hz, (hs.stp s1).stp s2, r2, Aft.imp h2.bind fun hh S3 ι3 F3 H3 ⟨s3, r3, h3⟩ => ?_⟩
  have ru3 := (ru.stp s2).stp s3
  unfold slV at h3
  split at h3
  · rename_i ds ed
    obtain ⟨a, vs, rfl, q1, d1⟩ := (ru3.dat r3 ed).list r3.sub
    refine .inl ⟨a, vs, rfl, SqL.of q1, fun p hp => ?_⟩
    have g := Grow.new (o := .lst (cutV vs l hh)) r3.sub hp
    exact h3 ι3 _ _ g.stp (r3.grow g) _ (.lst upd_same (DqAll.mono g.ff _ _ (d1.cut l hh)))
  · rename_i ds ed
    have rt := ru3.dat r3 ed
    obtain ⟨a, vs, rfl, q1, d1⟩ := rt.tuple r3.sub
    refine .inr ⟨a, vs, rfl, q1, fun ⟨w1, w2⟩ => ?_, fun _ p hp => ?_⟩
    · have e : cutX ds l hh = ds := by
        unfold cutX
        rw [← d1.length, w1, w2, d1.length]
        simp
      rw [e] at h3
      rcases rt with q | ⟨_, _, _, _, e, _⟩
      · exact h3 ι3 F3 H3 .refl r3 _ q
      · cases e
    · have g := Grow.new (o := .tup (cutV vs l hh)) r3.sub hp
      exact h3 ι3 _ _ g.stp (r3.grow g) _ (.tup (SqT.of upd_same) (DqAll.mono g.ff _ _ (d1.cut l hh)))
  · exact h3.elim

/-! ### isinstance -/
def tyNm : PyData → String
  | .none => "NoneType"
  | .bool _ => "bool"
  | .int _ => "int"
  | .str _ => "str"
  | .list _ => "list"
  | .tuple _ => "tuple"
  | .dict [(.none, .list _)] => "list"
  | .dict _ => "dict"
theorem SqT.ty {K : PySem.W.Frag} {H : Hp} {a : Addr} {xs : List V} (h : SqT K H a xs) : TyX K H (.ref a) (.type "tuple") := by
  rcases h with (h | ⟨o, h⟩) | ⟨o, its, n, h, c, _⟩
  · exact .base (.tup h)
  · exact .fTuple h
  · exact .kTuple h c
theorem SqL.ty {K : PySem.W.Frag} {H : Hp} {a : Addr} {xs : List V} (h : SqL K H a xs) : TyX K H (.ref a) (.type "list") := by
  rcases h with (h | ⟨o, h⟩) | ⟨o, its, n, h, c, _⟩
  · exact .base (.lst h)
  · exact .base (.frz h)
  · exact .kList h c
theorem RD.ty {K : PySem.W.Frag} {F H : Hp} {u : V} {x : PyData} (s : Same F H) (r : RD K F H u x) : TyX K H u (.type (tyNm x)) := by
  rcases r with r | ⟨a, vs, ds, rfl, rfl, h1, h2⟩
  · cases r with
    | non => exact .base .non
    | bl b => exact .base (.bl b)
    | int i => exact .base (.int i)
    | str z => exact .base (.str z)
    | lst q _ => exact .base (.lst (s _ _ q))
    | tup q _ => exact SqT.ty (SqT.mono s q)
    | scr q _ => exact SqL.ty (s.seq q)
    | @dk a ks vs kvs q l e d =>
      have : tyNm (.dict kvs) = "dict" := by
        unfold tyNm
        split <;> first | rfl | skip
        all_goals (rename_i he; cases he)
        cases ks with
        | nil => simp at e
        | cons k ks => cases k <;> simp [keyD] at e
      rw [this]
      exact .base (.dK (s _ _ q))
    | @dt a ks vs kvs q l e d =>
      have : tyNm (.dict kvs) = "dict" := by
        unfold tyNm
        split <;> first | rfl | skip
        all_goals (rename_i he; cases he)
        cases ks with
        | nil => simp at e
        | cons k ks => simp at e
      rw [this]
      exact .base (.dT (s _ _ q))
  · exact .base (.lst h1)
def isiD (c : String) (x : PyData) : Option PyData := (kitB (tyNm x) c).map .bool
def isiE (c : String) (fa : DE) : DE := un (isiD c) fa
theorem q_isi {c : String} {r : TE} (h : PE X e (tCB (rIsi X.K) (tCons (tE X.K X.mg W fa) (tCons (tC (.ty c)) tNil)))) : QE X W e (isiE c fa) := by
  refine PE.imp h fun σ H Q q => ?_
  have hr : UnD X.K (fun u H Q => rIsi X.K [u, .ty c] H Q) (isiD c) := fun F H u x z Q s ru e k => by
    unfold isiD at e
    simp only [Option.map_eq_some_iff] at e
    obtain ⟨b, e1, rfl⟩ := e
    exact ⟨u, .ty c, _, _, b, rfl, .ty c, ru.ty s, kit_ty e1, k _ F H (.refl s) (.bl _)⟩
  exact un_ok hr q
/-- isinstance(x, (A, B)) of built-in classes -/
def isiD2 (c c2 : String) (x : PyData) : Option PyData := match kitB (tyNm x) c with
  | some true => some (.bool true)
  | some false => (kitB (tyNm x) c2).map .bool
  | none => none
theorem q_isi2 {c c2 : String} (h : PE X e (tCB (rIsiT X.K) (tCons (tE X.K X.mg W fa) (tCons (tTup (tCons (tC (.ty c)) (tCons (tC (.ty c2)) tNil))) tNil)))) : QE X W e (un (isiD2 c c2) fa) := by
  refine PE.imp h fun σ H Q q => ?_
  have hr : UnD X.K (fun u H Q => ∀ p, H p = none → rIsiT X.K [u, .ref p] (upd H p (.tup [.ty c, .ty c2])) Q) (isiD2 c c2) := fun F H u x z Q s ru e k p hp => by
    have g := Grow.new (o := .tup [.ty c, .ty c2]) s hp
    have ru' : RD X.K (upd F p (.tup [.ty c, .ty c2])) (upd H p (.tup [.ty c, .ty c2])) u x := by
      rcases ru with q | ⟨a, vs, ds, e1, e2, h1, h2⟩
      · exact .inl (Dq.mono g.ff _ _ q)
      · exact .inr ⟨a, vs, ds, e1, e2, g.hh _ _ h1, DqAll.mono g.ff _ _ h2⟩
    unfold isiD2 at e
    refine ⟨u, p, [.ty c, .ty c2], .type (tyNm x), [.type c, .type c2], ?_⟩
    split at e
    · rename_i e1
      cases e
      exact ⟨true, rfl, upd_same, .cons (.ty c) (.cons (.ty c2) .nil), ru'.ty g.sub, kitAny_cons (kit_ty e1) (fun q => nomatch q) (fun _ => rfl), k _ _ _ g (.bl _)⟩
    · rename_i e1
      simp only [Option.map_eq_some_iff] at e
      obtain ⟨b, e2, rfl⟩ := e
      exact ⟨b, rfl, upd_same, .cons (.ty c) (.cons (.ty c2) .nil), ru'.ty g.sub, kitAny_cons (kit_ty e1) (fun _ => kitAny_cons (kit_ty e2) (fun q => by rw [q]; exact kitAny_nil) (fun q => q)) (fun q => nomatch q), k _ _ _ g (.bl _)⟩
    · cases e
  obtain ⟨ι, F, S, sl, hz, hs, rel, q'⟩ := un_ok hr q
  exact ⟨ι, F, S, sl, hz, hs, rel, Aft.imp q' fun x S' ι' F' H' k u ru => ⟨by show 2 ≤ sizeLine; decide, fun p hp => k u ru p hp⟩⟩
end
end DV
set_option Elab.async false
set_option linter.all false
set_option maxRecDepth 100000
namespace DV
open PySem PySem.Spec PyProof.Rows L2

/-! ### what is walked: items that are data -/
abbrev IT := Sl → Sto → R (List PyData)
/-- an iterator that yields the items, over all that grows from F -/
structure ItOk (K : PySem.W.Frag) (F : Hp) (J : It) (xs : List PyData) : Prop where
  go : ∀ i F1 H1, i < xs.length → Same F F1 → Same F1 H1 → J.go i H1
  yld : ∀ i F1 H1 x H2, i < xs.length → Same F F1 → Same F1 H1 → J.yld i H1 x H2 → ∃ d F2, xs[i]? = some d ∧ Grow F1 H1 F2 H2 ∧ Dq K F2 x d
  stop : ∀ i F1 H1, xs.length ≤ i → Same F F1 → Same F1 H1 → J.stop i H1
def tI (K : PySem.W.Frag) (mg : Str → Option Value) (W : WX) (f : IT) : TI := fun σ H R => ∃ ι F S sl, sl.length ≤ σ.length ∧ SlR K ι F S.length σ sl ∧ Rel K ι F H S ∧
  Aft K mg W σ ι F H S.length (f sl S) fun xs S' ι' F' H' => ∀ J, ItOk K F' J xs → R J H'
def QI (X : Cx) (W : WX) (tg iter : Expr) (f : IT) : Prop := PI X tg iter (tI X.K X.mg W f)
theorem PI.imp {X : Cx} {tg e : Expr} {t t' : TI} (h : PI X tg e t) (k : ∀ σ H Q, t' σ H Q → t σ H Q) : PI X tg e t' := ⟨fun pins s σ H Q I q => h.run pins s σ H Q I (k _ _ _ q)⟩
theorem PI.or {X : Cx} {tg e : Expr} {t t' : TI} (h : PI X tg e t) (h' : PI X tg e t') : PI X tg e (fun σ H Q => t σ H Q ∨ t' σ H Q) := ⟨fun pins s σ H Q I q => q.elim (h.run pins s σ H Q I) (h'.run pins s σ H Q I)⟩
/-- a list or a tuple, given away -/
def seqI (f : DE) : IT := fun sl S => (f sl S).bind fun x S1 => match frz S1 x with
  | some (.list ds, S2) => .ok ds S2
  | some (.tuple ds, S2) => .ok ds S2
  | _ => .bad
section
variable {K : PySem.W.Frag} {F H : Hp}
theorem it_list {a : Addr} {vs : List V} {ds : List PyData} (h : F a = some (.lst vs)) (d : DqAll K F vs ds) : ItOk K F (Itl K a) ds where
  go := fun i F1 H1 hi f1 f2 => ⟨vs, vs[i]'(by rw [d.length]; exact hi), SqL.of (f2 _ _ (f1 _ _ h)), List.getElem?_eq_getElem _⟩
  yld := fun i F1 H1 x H2 hi f1 f2 ⟨e, q⟩ => by
    subst e
    have e := q vs (SqL.of (f2 _ _ (f1 _ _ h)))
    obtain ⟨v, e2, dv⟩ := d.get (List.getElem?_eq_getElem hi)
    rw [e] at e2
    cases e2
    exact ⟨_, F1, List.getElem?_eq_getElem hi, .refl f2, Dq.mono f1 _ _ dv⟩
  stop := fun i F1 H1 hi f1 f2 => ⟨vs, SqL.of (f2 _ _ (f1 _ _ h)), by rw [d.length]; exact hi⟩
theorem it_tup {a : Addr} {vs : List V} {ds : List PyData} (h : SqT K F a vs) (d : DqAll K F vs ds) : ItOk K F (Itt K a) ds where
  go := fun i F1 H1 hi f1 f2 => ⟨vs, vs[i]'(by rw [d.length]; exact hi), SqT.mono f2 (SqT.mono f1 h), List.getElem?_eq_getElem _⟩
  yld := fun i F1 H1 x H2 hi f1 f2 ⟨e, q⟩ => by
    subst e
    have e := q vs (SqT.mono f2 (SqT.mono f1 h))
    obtain ⟨v, e2, dv⟩ := d.get (List.getElem?_eq_getElem hi)
    rw [e] at e2
    cases e2
    exact ⟨_, F1, List.getElem?_eq_getElem hi, .refl f2, Dq.mono f1 _ _ dv⟩
  stop := fun i F1 H1 hi f1 f2 => ⟨vs, SqT.mono f2 (SqT.mono f1 h), by rw [d.length]; exact hi⟩
def rangeL (lo : Int) (n : Nat) : List PyData := (List.range n).map fun i => .int (lo + (i : Nat))
theorem rangeL_length (lo : Int) (n : Nat) : (rangeL lo n).length = n := by simp [rangeL]
theorem rangeL_get {lo : Int} {n i : Nat} (h : i < n) : (rangeL lo n)[i]? = some (.int (lo + (i : Nat))) := by simp [rangeL, h]
theorem it_range {lo : Int} {n : Nat} : ItOk K F (Itr lo n) (rangeL lo n) where
  go := fun i F1 H1 hi f1 f2 => by rw [rangeL_length] at hi; exact hi
  yld := fun i F1 H1 x H2 hi f1 f2 ⟨e, q⟩ => by
    subst e q
    rw [rangeL_length] at hi
    exact ⟨_, F1, rangeL_get hi, .refl f2, .int _⟩
  stop := fun i F1 H1 hi f1 f2 => by rw [rangeL_length] at hi; exact hi
end
section
variable {X : Cx} {W : WX} {a b e tg : Expr} {fa fb f : DE} {la : DL} {pos p : Pos}
theorem i_seq (h : QE X W e f) : QI X W tg e (seqI f) := by
  refine PI.imp (PI.or (pi_list h) (pi_tup h)) fun σ H Q q => ?_
  obtain ⟨ι, F, S, sl, hz, hs, rel, q⟩ := q
  unfold seqI at q
  cases ef : f sl S with
  | er x S1 =>
    rw [ef] at q
    exact .inl ⟨ι, F, S, sl, hz, hs, rel, by rw [ef]; exact q⟩
  | bad => rw [ef] at q; exact q.elim
  | ok x S1 =>
    rw [ef] at q
    simp only [R.bind] at q
    split at q
    · rename_i ds S2 e2
      refine .inl ⟨ι, F, S, sl, hz, hs, rel, ?_⟩
      rw [ef]
      intro ι1 F1 H1 s1 r1 u ru
      obtain ⟨F2, g2, d2⟩ := frz_ok e2 r1 ru
      cases d2 with
      | lst q2 dd => exact ⟨_, rfl, ⟨_, SqL.of (g2.2.2.sub _ _ q2)⟩, q ι1 F2 H1 (s1.trans g2.2.1) g2.2.2 _ (it_list q2 dd)⟩
    · rename_i ds S2 e2
      refine .inr ⟨ι, F, S, sl, hz, hs, rel, ?_⟩
      rw [ef]
      intro ι1 F1 H1 s1 r1 u ru
      obtain ⟨F2, g2, d2⟩ := frz_ok e2 r1 ru
      cases d2 with
      | tup q2 dd => exact ⟨_, rfl, ⟨_, SqT.mono g2.2.2.sub q2⟩, q ι1 F2 H1 (s1.trans g2.2.1) g2.2.2 _ (it_tup q2 dd)⟩
    · exact q.elim
def rng1 (la : DL) : IT := fun sl S => (la sl S).bind fun xs S1 => match xs with
  | [.d (.int j)] => if decide (-(2 ^ 62) ≤ j) && decide (j < 2 ^ 62) then .ok (rangeL 0 j.toNat) S1 else .bad
  | _ => .bad
def rng2 (la : DL) : IT := fun sl S => (la sl S).bind fun xs S1 => match xs with
  | [.d (.int i), .d (.int j)] => if decide (-(2 ^ 62) ≤ i) && decide (i < 2 ^ 62) && decide (-(2 ^ 62) ≤ j) && decide (j < 2 ^ 62) then .ok (rangeL i (j - i).toNat) S1 else .bad
  | _ => .bad
theorem RVs.nil_inv {K : PySem.W.Frag} {ι : Nat → Addr} {F : Hp} {n : Nat} {us : List V} (h : RVs K ι F n us []) : us = [] := by cases h; rfl
theorem i_rng1 (hg : Gl X "range") (hm : X.mg "range" = none) (ha : QA X W [a] la) (hs : starEach [a] X.env = [(false, eval a X.env)] := by rfl) : QI X W tg (.Call (.Name "range" p) [a] [] pos) (rng1 la) := by
  refine PI.imp (pi_range1 hg hm ha hs) fun σ H Q q => ?_
  obtain ⟨ι, F, S, sl, hz, hs, rel, q⟩ := q
  refine ⟨ι, F, S, sl, hz, hs, rel, Aft.imp (Aft.bind q) fun xs S1 ι1 F1 H1 ⟨s1, r1, h1⟩ us rus => ?_⟩
  split at h1
  · cases rus with
    | cons r rr =>
      cases RVs.nil_inv rr
      cases r
      split at h1
      · rename_i c
        simp only [Bool.and_eq_true, decide_eq_true_eq] at c
        exact ⟨_, rfl, c.1, c.2, h1 ι1 F1 H1 .refl r1 _ it_range⟩
      · exact h1.elim
  · exact h1.elim
theorem i_rng2 (hg : Gl X "range") (hm : X.mg "range" = none) (ha : QA X W [a, b] la) (hs : starEach [a, b] X.env = [(false, eval a X.env), (false, eval b X.env)] := by rfl) (hs2 : starEach [b] X.env = [(false, eval b X.env)] := by rfl) : QI X W tg (.Call (.Name "range" p) [a, b] [] pos) (rng2 la) := by
  refine PI.imp (pi_range2 hg hm ha hs hs2) fun σ H Q q => ?_
  obtain ⟨ι, F, S, sl, hz, hs, rel, q⟩ := q
  refine ⟨ι, F, S, sl, hz, hs, rel, Aft.imp (Aft.bind q) fun xs S1 ι1 F1 H1 ⟨s1, r1, h1⟩ us rus => ?_⟩
  split at h1
  · cases rus with
    | cons r rr =>
      cases rr with
      | cons r' rr =>
        cases RVs.nil_inv rr
        cases r
        cases r'
        split at h1
        · rename_i c
          simp only [Bool.and_eq_true, decide_eq_true_eq] at c
          exact ⟨_, _, rfl, ⟨c.1.1.1, c.1.1.2, c.1.2, c.2⟩, h1 ι1 F1 H1 .refl r1 _ it_range⟩
        · exact h1.elim
  · exact h1.elim
end

/-! ### targets -/
inductive Tg where
  | nm (i : Nat)
  | tp (is : List Nat)
def gNames : List Nat → TGs
  | [] => gNil
  | i :: is => gCons (gName i) (gNames is)
def Tg.g (K : PySem.W.Frag) : Tg → TG
  | .nm i => gName i
  | .tp is => gTup K is.length (gNames is)
def Tg.ix : Tg → List Nat
  | .nm i => [i]
  | .tp is => is
def setMany : List Nat → List PyData → Sl → Option Sl
  | [], [], sl => some sl
  | i :: is, d :: ds, sl => setMany is ds (sl.set i (some (.d d)))
  | _, _, _ => none
def setT (t : Tg) (d : PyData) (sl : Sl) : Option Sl := match t with
  | .nm i => some (sl.set i (some (.d d)))
  | .tp is => match d with
    | .tuple ds => setMany is ds sl
    | _ => none
section
variable {K : PySem.W.Frag} {ι : Nat → Addr} {F H : Hp} {n : Nat} {σ : CxSt} {sl sl' : Sl} {vs : List Nat}
theorem SlR.set {i : Nat} {v : V} {x : Val} (h : SlR K ι F n σ sl) (hz : sl.length ≤ σ.length) (r : RV K ι F n v x) : SlR K ι F n (σ.set i (some v)) (sl.set i (some x)) := fun j y e => by
  by_cases hj : j = i
  · subst hj
    by_cases hl : j < sl.length
    · rw [List.getElem?_set_self hl] at e
      cases e
      exact ⟨v, List.getElem?_set_self (Nat.lt_of_lt_of_le hl hz), r⟩
    · rw [List.getElem?_eq_none (by simpa using Nat.le_of_not_lt hl)] at e
      cases e
  · rw [List.getElem?_set_ne (Ne.symm hj)] at e
    obtain ⟨w, e1, r1⟩ := h j y e
    exact ⟨w, by rw [List.getElem?_set_ne (Ne.symm hj)]; exact e1, r1⟩
theorem wipe_set {i : Nat} {x : Option V} : ∀ {vs : List Nat} {σ : CxSt}, i ∈ vs → wipe (σ.set i x) vs = wipe σ vs
  | v :: vs, σ, hi => by
    unfold wipe
    by_cases e : i = v
    · subst e
      by_cases hv : i ∈ vs
      · rw [wipe_set hv]
      · have : ∀ (us : List Nat) (τ : CxSt), i ∉ us → (wipe (τ.set i x) us).set i none = (wipe τ us).set i none := by
          intro us
          induction us with
          | nil => intro τ _; simp [wipe]
          | cons u us ih =>
            intro τ hu
            simp only [List.mem_cons, not_or] at hu
            unfold wipe
            rw [List.set_comm _ _ (Ne.symm hu.1), ih τ hu.2, List.set_comm _ _ hu.1]
        exact this vs σ hv
    · rcases List.mem_cons.mp hi with h | h
      · exact absurd h e
      · rw [wipe_set h]
theorem wipe_comm (v : Nat) : ∀ (vs : List Nat) (σ : CxSt), wipe (σ.set v none) vs = (wipe σ vs).set v none
  | [], σ => rfl
  | u :: vs, σ => by
    unfold wipe
    rw [wipe_comm v vs σ]
    by_cases e : u = v
    · subst e; rfl
    · rw [List.set_comm _ _ e]
theorem wipe_wipe : ∀ (vs : List Nat) (σ : CxSt), wipe (wipe σ vs) vs = wipe σ vs
  | [], σ => rfl
  | v :: vs, σ => by
    show (wipe ((wipe σ vs).set v none) vs).set v none = (wipe σ vs).set v none
    rw [wipe_comm, wipe_wipe vs σ, List.set_set]
def wipeS (sl : Sl) : List Nat → Sl
  | [] => sl
  | v :: vs => (wipeS sl vs).set v none
theorem wipeS_length (sl : Sl) : ∀ vs, (wipeS sl vs).length = sl.length
  | [] => rfl
  | v :: vs => by unfold wipeS; rw [List.length_set, wipeS_length sl vs]
theorem SlR.wipe (h : SlR K ι F n σ sl) : ∀ vs : List Nat, SlR K ι F n (L2.wipe σ vs) (wipeS sl vs)
  | [] => h
  | v :: vs => fun j y e => by
    unfold wipeS at e
    by_cases hj : j = v
    · subst hj
      by_cases hl : j < (wipeS sl vs).length
      · rw [List.getElem?_set_self hl] at e; cases e
      · rw [List.getElem?_eq_none (by simpa using Nat.le_of_not_lt hl)] at e; cases e
    · rw [List.getElem?_set_ne (Ne.symm hj)] at e
      obtain ⟨w, e1, r1⟩ := SlR.wipe h vs j y e
      refine ⟨w, ?_, r1⟩
      unfold L2.wipe
      rw [List.getElem?_set_ne (Ne.symm hj)]
      exact e1
theorem gNames_ok : ∀ {is : List Nat} {ds : List PyData} {xs : List V} {σ : CxSt} {sl sl' : Sl} {Q : CxSt → Hp → Prop}, setMany is ds sl = some sl' → DqAll K F xs ds → SlR K ι F n σ sl → sl.length ≤ σ.length →
    (∀ σ2, SlR K ι F n σ2 sl' → σ2.length = σ.length → sl'.length = sl.length → (∀ vs, (∀ i ∈ is, i ∈ vs) → L2.wipe σ2 vs = L2.wipe σ vs) → Q σ2 H) → gNames is xs σ H Q
  | [], [], xs, σ, sl, sl', Q, e, d, hs, hz, k => by
    cases d
    simp [setMany] at e
    subst e
    exact ⟨rfl, k σ hs rfl rfl fun _ _ => rfl⟩
  | i :: is, dd :: ds, xs, σ, sl, sl', Q, e, d, hs, hz, k => by
    cases d with
    | cons a b =>
      unfold setMany at e
      refine ⟨_, _, rfl, gNames_ok (sl := sl.set i (some (.d dd))) e b (hs.set hz a) (by simpa using hz) fun σ2 h2 l2 l3 w2 => k σ2 h2 (by simpa using l2) (by simpa using l3) fun vs hv => ?_⟩
      rw [w2 vs fun j hj => hv j (List.mem_cons_of_mem _ hj), wipe_set (hv i List.mem_cons_self)]
  | [], _ :: _, _, _, _, _, _, e, _, _, _, _ => by simp [setMany] at e
  | _ :: _, [], _, _, _, _, _, e, _, _, _, _ => by simp [setMany] at e
theorem setMany_len : ∀ {is : List Nat} {ds : List PyData} {sl sl' : Sl}, setMany is ds sl = some sl' → ds.length = is.length
  | [], [], _, _, _ => rfl
  | i :: is, d :: ds, sl, sl', e => by
    unfold setMany at e
    simp [setMany_len e]
  | [], _ :: _, _, _, e => by simp [setMany] at e
  | _ :: _, [], _, _, e => by simp [setMany] at e
theorem Tg.ok {t : Tg} {d : PyData} {x : V} {Q : CxSt → Hp → Prop} (e : setT t d sl = some sl') (hd : Dq K F x d) (s : Same F H) (hs : SlR K ι F n σ sl) (hz : sl.length ≤ σ.length)
    (k : ∀ σ2, SlR K ι F n σ2 sl' → σ2.length = σ.length → sl'.length = sl.length → (∀ vs, (∀ i ∈ t.ix, i ∈ vs) → L2.wipe σ2 vs = L2.wipe σ vs) → Q σ2 H) : t.g K x σ H Q := by
  cases t with
  | nm i =>
    simp [setT] at e
    subst e
    exact k _ (hs.set hz hd) (by simp) (by simp) fun vs hv => wipe_set (hv i (by simp [Tg.ix]))
  | tp is =>
    unfold setT at e
    dsimp only at e
    split at e
    · rename_i ds
      cases hd with
      | tup q dd => exact ⟨_, _, rfl, SqT.mono s q, by rw [dd.length]; exact setMany_len e, gNames_ok e dd hs hz k⟩
    · cases e
end

/-! ### a list comprehension -/
def nb {α β : Type} (r : R α) (k : α → Sto → R β) : R β := match r with
  | .ok a S => k a S
  | _ => .bad
def lcGo (tg : Tg) (tt : DB) (el : DE) (sl : Sl) : Nat → List PyData → Sto → R (List Val)
  | _, [], S => .ok [] S
  | n, d :: ds, S => match setT tg d sl with
    | none => .bad
    | some sl' => nb (tt sl' S) fun b S1 => if b = true then nb (el sl' S1) fun x S2 => if n < sizeLine then (lcGo tg tt el sl (n + 1) ds S2).bind fun xs S3 => .ok (x :: xs) S3 else .bad else lcGo tg tt el sl n ds S1
def lcF (own : List Nat) (it : IT) (tg : Tg) (tt : DB) (el : DE) : DF := fun sl S => (it sl S).bind fun ds S1 => lcGo tg tt el (wipeS sl own) 0 ds S1
def yes : DB := fun _ S => .ok true S
/-- the heap without the object at D -/
def hid (H : Hp) (D : Addr) : Hp := fun a => if a = D then none else H a
section
variable {K : PySem.W.Frag} {mg : Str → Option Value} {ι ι' : Nat → Addr} {F F' G H' : Hp} {S S' : Sto} {D : Addr} {o o' : HO} {n : Nat}
theorem hid_ne {H : Hp} {a : Addr} (h : a ≠ D) : hid H D a = H a := if_neg h
theorem hid_self {H : Hp} : hid H D D = none := if_pos rfl
theorem upd_hid {H : Hp} : upd (hid H D) D o = upd H D o := by
  funext a
  unfold upd hid
  split <;> rfl
theorem upd_hid_self {H : Hp} (h : H D = some o) : upd (hid H D) D o = H := by
  funext a
  unfold upd hid
  split
  · rename_i e; rw [e, h]
  · rfl
theorem Rel.ne (rel : Rel K ι F G S) (hD : G D = none) : ∀ k, k < S.length → ι k ≠ D := fun k hk e => by
  obtain ⟨o, eo⟩ : ∃ o, S[k]? = some o := ⟨_, List.getElem?_eq_getElem hk⟩
  have := rel.obj k o eo
  cases o with
  | lst ys => obtain ⟨_, vs, g1, _⟩ := this; rw [e, hD] at g1; cases g1
  | frz x =>
    obtain ⟨vs, g1, _⟩ := this
    have := rel.sub _ _ g1
    rw [e, hD] at this
    cases this
/-- an object beside the store -/
theorem Rel.beside (rel : Rel K ι F G S) (hD : G D = none) : Rel K ι F (upd G D o) S where
  sub := fun a u h => by
    have := rel.sub _ _ h
    rw [upd_ne (ne_of_none this hD)]
    exact this
  inj := rel.inj
  obj := fun k u e => by
    have h := rel.obj k u e
    cases u with
    | frz x => exact h
    | lst xs =>
      obtain ⟨h0, vs, h1, h2⟩ := h
      exact ⟨h0, vs, by rw [upd_ne (ne_of_none h1 hD)]; exact h1, h2⟩
theorem Rel.hide (rel : Rel K ι F H' S) (f0 : F D = none) (hn : ∀ k, k < S.length → ι k ≠ D) : Rel K ι F (hid H' D) S where
  sub := fun a u h => by
    rw [hid_ne (ne_of_none h f0)]
    exact rel.sub _ _ h
  inj := rel.inj
  obj := fun k u e => by
    have h := rel.obj k u e
    have hk := (List.getElem?_eq_some_iff.mp e).1
    cases u with
    | frz x => exact h
    | lst xs =>
      obtain ⟨h0, vs, h1, h2⟩ := h
      exact ⟨h0, vs, by rw [hid_ne (hn k hk)]; exact h1, h2⟩
theorem Stp.hide (rel : Rel K ι F G S) (hD : G D = none) (st : Stp ι F (upd G D o) S.length ι' F' H' n) : Stp ι F G S.length ι' F' (hid H' D) n ∧ H' D = some o ∧ F' D = none ∧ ∀ k, k < n → ι' k ≠ D := by
  have ne := rel.ne hD
  have f0 : F D = none := rel.sub.free hD
  have keep : ∀ a u, G a = some u → upd G D o a = some u := fun a u h => by rw [upd_ne (ne_of_none h hD)]; exact h
  refine ⟨⟨st.le, st.ag, st.ff, fun a u h hn => ?_, fun a u h => ?_, fun k h1 h2 => ?_, fun a u h => ?_⟩, st.out D o upd_same ne, ?_, fun k hk => ?_⟩
  · rw [hid_ne (ne_of_none h hD)]
    exact st.out a u (keep a u h) hn
  · obtain ⟨u', e⟩ := st.dom a u (keep a u h)
    exact ⟨u', by rw [hid_ne (ne_of_none h hD)]; exact e⟩
  · have := st.new k h1 h2
    cases q : G (ι' k) with
    | none => rfl
    | some u => rw [keep _ _ q] at this; cases this
  · rcases st.fnew a u h with h | h | h
    · exact .inl h
    · refine .inr (.inl ?_)
      cases q : G a with
      | none => rfl
      | some u => rw [keep _ _ q] at h; cases h
    · exact .inr (.inr h)
  · cases q : F' D with
    | none => rfl
    | some u =>
      rcases st.fnew D u q with h | h | ⟨k, hk, e⟩
      · rw [f0] at h; cases h
      · rw [upd_same] at h; cases h
      · exact absurd e (ne k hk)
  · by_cases q : k < S.length
    · rw [st.ag k q]; exact ne k q
    · intro e
      have := st.new k (Nat.le_of_not_lt q) hk
      rw [e, upd_same] at this
      cases this
end
section
variable {X : Cx} {W : WX} {pos : Pos}
theorem Aft.nb {K : PySem.W.Frag} {mg : Str → Option Value} {σ : CxSt} {ι : Nat → Addr} {F H : Hp} {n : Nat} {α β : Type} {r : R α} {k : α → Sto → R β} {P : β → Sto → (Nat → Addr) → Hp → Hp → Prop} (h : Aft K mg W σ ι F H n (nb r k) P) :
    ∃ a S1, r = .ok a S1 ∧ Aft K mg W σ ι F H n (k a S1) P := by
  cases r with
  | ok a S1 => exact ⟨a, S1, rfl, h⟩
  | er e S' => exact h.elim
  | bad => exact h.elim
/-- the wish within a block -/
abbrev W0 : WX := fun _ _ _ _ => False
theorem lc_ok {K : PySem.W.Frag} {mg : Str → Option Value} {W : WX} {own : List Nat} {tg : Tg} {tt : DB} {el : DE} {it : IT} (hx : ∀ i ∈ tg.ix, i ∈ own) {σ : CxSt} {H : Hp} {Q : VK} (h : tF K mg W (lcF own it tg tt el) σ H Q) :
    tLc (tI K mg W it) (tg.g K) (tB K mg W0 tt) (tE K mg W0 el) own σ H Q := by
  obtain ⟨ι, F, S, sl, hz, hs, rel, q⟩ := h
  refine ⟨ι, F, S, sl, hz, hs, rel, Aft.imp (Aft.bind q) fun items S1 ι1 F1 H1 ⟨s1, r1, h1⟩ J hJ D hD => ?_⟩
  have hs1 := hs.stp s1
  have hzw : (wipeS sl own).length ≤ (L2.wipe σ own).length := by rw [wipeS_length, wipe_length]; exact hz
  let P : List Val → Sto → (Nat → Addr) → Hp → Hp → Prop := fun xs S' ι' F' H' => ∀ p us, H' p = none → RVs K ι' F' S'.length us xs → Q (.ref p) (upd H' p (.lst us))
  refine ⟨fun i m H => ∃ (ι : Nat → Addr) (F G : Hp) (S : Sto) (acc : List V) (ax : List Val), m = items.length - i ∧ i ≤ items.length ∧ H = upd G D (.lst acc) ∧ G D = none ∧ Rel K ι F G S ∧ Stp ι1 F1 H1 S1.length ι F G S.length ∧ RVs K ι F S.length acc ax ∧
    Aft K mg W σ ι F G S.length ((lcGo tg tt el (wipeS sl own) ax.length (items.drop i) S).bind fun xs S' => .ok (ax ++ xs) S') P, ⟨items.length, ι1, F1, H1, S1, [], [], rfl, Nat.zero_le _, rfl, hD, r1, .refl, .nil, ?_⟩, ?_⟩
  · cases e : lcGo tg tt el (wipeS sl own) 0 items S1 with
    | ok xs S' => rw [e] at h1; simpa [R.bind, e] using h1
    | er x S' => rw [e] at h1; simpa [R.bind, e] using h1
    | bad => rw [e] at h1; exact h1.elim
  · rintro i m _ ⟨ι, F, G, S, acc, ax, rfl, hi, rfl, hG, rel, st, ra, af⟩
    have relA : Rel K ι F (upd G D (.lst acc)) S := rel.beside hG
    by_cases hlt : i < items.length
    · refine .inr ⟨hJ.go i F _ hlt st.ff relA.sub, fun H => ∃ m', m' < items.length - i ∧ ∃ (ι : Nat → Addr) (F G : Hp) (S : Sto) (acc : List V) (ax : List Val), m' = items.length - (i + 1) ∧ i + 1 ≤ items.length ∧ H = upd G D (.lst acc) ∧ G D = none ∧ Rel K ι F G S ∧ Stp ι1 F1 H1 S1.length ι F G S.length ∧ RVs K ι F S.length acc ax ∧
        Aft K mg W σ ι F G S.length ((lcGo tg tt el (wipeS sl own) ax.length (items.drop (i + 1)) S).bind fun xs S' => .ok (ax ++ xs) S') P, fun H' h => h, fun x H2 hy => ?_⟩
      obtain ⟨d, F2, ed, g2, dx⟩ := hJ.yld i F _ x H2 hlt st.ff relA.sub hy
      have edr : items.drop i = d :: items.drop (i + 1) := by
        rw [List.drop_eq_getElem_cons hlt]
        rw [List.getElem?_eq_getElem hlt] at ed
        rw [Option.some.inj ed]
      rw [edr] at af
      unfold lcGo at af
      cases es : setT tg d (wipeS sl own) with
      | none => rw [es] at af; exact af.elim
      | some sl' =>
        rw [es] at af
        dsimp only at af
        have rel2 : Rel K ι F2 H2 S := relA.grow g2
        have stA : Stp ι F (upd G D (.lst acc)) S.length ι F2 H2 S.length := g2.stp
        have hs2 : SlR K ι F2 S.length (L2.wipe σ own) (wipeS sl own) := ((hs1.stp st).wipe own).stp stA
        refine Tg.ok es dx g2.sub hs2 hzw fun σ2 h2 l2 l3 w2 => ⟨by rw [w2 own hx, wipe_wipe], ?_⟩
        have hz2 : sl'.length ≤ σ2.length := by rw [l2, l3]; exact hzw
        -- the test
        have ntt : ∃ b S2, tt sl' S = .ok b S2 ∧ Aft K mg W σ ι F G S.length ((if b = true then nb (el sl' S2) fun x S3 => if ax.length < sizeLine then (lcGo tg tt el (wipeS sl own) (ax.length + 1) (items.drop (i + 1)) S3).bind fun xs S4 => .ok (x :: xs) S4 else .bad
            else lcGo tg tt el (wipeS sl own) ax.length (items.drop (i + 1)) S2).bind fun xs S' => .ok (ax ++ xs) S') P := by
          cases e : tt sl' S with
          | ok b S2 => rw [e] at af; exact ⟨b, S2, rfl, af⟩
          | er x S2 => rw [e] at af; exact af.elim
          | bad => rw [e] at af; exact af.elim
        obtain ⟨b, S2, eb, af⟩ := ntt
        refine ⟨ι, F2, S, sl', hz2, h2, rel2, ?_⟩
        rw [eb]
        intro ι3 F3 H3 st3 rel3
        have stB := stA.trans st3
        cases b with
        | false =>
          obtain ⟨stH, hDd, f0, nD⟩ := Stp.hide rel hG stB
          refine iteF ⟨items.length - (i + 1), by omega, ι3, F3, hid H3 D, S2, acc, ax, rfl, by omega, (upd_hid_self hDd).symm, hid_self, rel3.hide f0 nD, st.trans stH, ra.stp stH, ?_⟩
          exact Aft.stp (by simpa using af) stH
        | true =>
          refine iteT ?_
          rw [if_pos rfl] at af
          have nel : ∃ y S3, el sl' S2 = .ok y S3 ∧ ax.length < sizeLine ∧ Aft K mg W σ ι F G S.length ((lcGo tg tt el (wipeS sl own) (ax.length + 1) (items.drop (i + 1)) S3).bind fun xs S' => .ok (ax ++ y :: xs) S') P := by
            cases e : el sl' S2 with
            | ok y S3 =>
              rw [e] at af
              simp only [DV.nb] at af
              by_cases hsz : ax.length < sizeLine
              · rw [if_pos hsz] at af
                refine ⟨y, S3, rfl, hsz, ?_⟩
                cases e4 : lcGo tg tt el (wipeS sl own) (ax.length + 1) (items.drop (i + 1)) S3 with
                | ok xs S4 => rw [e4] at af; exact af
                | er x S4 => rw [e4] at af; exact af
                | bad => rw [e4] at af; exact af.elim
              · rw [if_neg hsz] at af; exact af.elim
            | er x S3 => rw [e] at af; exact af.elim
            | bad => rw [e] at af; exact af.elim
          obtain ⟨y, S3, ey, hsz, af⟩ := nel
          refine ⟨ι3, F3, S2, sl', hz2, h2.stp st3, rel3, ?_⟩
          rw [ey]
          intro ι4 F4 H4 st4 rel4 v rv
          have stC := stB.trans st4
          obtain ⟨stH, hDd, f0, nD⟩ := Stp.hide rel hG stC
          refine ⟨acc, hDd, by rw [ra.length]; exact hsz, items.length - (i + 1), by omega, ι4, F4, hid H4 D, S3, acc ++ [v], ax ++ [y], rfl, by omega, upd_hid.symm, hid_self, rel4.hide f0 nD, st.trans stH, (ra.stp stH).append (.cons rv .nil), ?_⟩
          have e5 : (ax ++ [y]).length = ax.length + 1 := by simp
          rw [e5]
          refine Aft.stp ?_ stH
          have e6 : ∀ xs, ax ++ [y] ++ xs = ax ++ y :: xs := fun xs => by simp
          simp only [e6]
          exact af
    · have hie : i = items.length := by omega
      subst hie
      refine .inl ⟨hJ.stop _ F _ (Nat.le_refl _) st.ff relA.sub, ?_⟩
      rw [List.drop_length] at af
      simp only [lcGo, R.bind, List.append_nil] at af
      exact af ι F G .refl rel D acc hG ra
/-- the context of a block -/
abbrev InBlk (X : Cx) (scope : Scope) (k : Cx → Prop) : Prop := ∀ (s : Shared) (H : Hp) (C : Addr) (cl : List (Str × Addr)) (fp : List Addr), k (X.blk s H scope (compEnvC scope cl C X.env) fp)
def QTs (X : Cx) (W : WX) (ifs : List Expr) (f : DB) : Prop := PTs X ifs (tB X.K X.mg W f)
theorem ts_nil : QTs X W [] yes := ⟨fun pins s σ H Q I hw => pts_nil.run pins s σ H Q I (by
  obtain ⟨ι, F, S, sl, hz, hs, rel, q⟩ := hw
  exact q ι F H .refl rel)⟩
theorem ts_one {c : Expr} {f : DB} (h : QT X W c f) : QTs X W [c] f := pts_one h
theorem f_lc {elt tg iter : Expr} {ifs : List Expr} {scope : Scope} {own : List (Str × Nat)} {it : IT} {t : Tg} {tt : DB} {el : DE} (hc : X.calm = true) (hN : X.N.Nodup) (hi : QI X W tg iter it) (ok : BlkOk X.N X.env.scope scope own)
    (hx : ∀ i ∈ t.ix, i ∈ own.map (·.2))
    (hg : InBlk X scope fun Y => PG Y tg (t.g X.K)) (ht : InBlk X scope fun Y => QTs Y W0 ifs tt) (he : InBlk X scope fun Y => QE Y W0 elt el) (hs : ∀ x, foldedSetIterable iter X.env x = pure x := by intro _; rfl) :
    QF X W (.ListComp elt [⟨tg, iter, ifs, 0⟩] scope pos) (lcF (own.map (·.2)) it t tt el) :=
  PE.imp (pe_lc (tt := tB X.K X.mg W0 tt) (te := tE X.K X.mg W0 el) hc hN hi ok hg ht he hs) fun σ H Q q => lc_ok hx q
end
end DV
set_option Elab.async false
set_option linter.all false
set_option maxRecDepth 100000
namespace DV
open PySem PySem.Spec PyProof.Rows L2

inductive RS where
  | nx (sl : Sl) (S : Sto)
  | rt (d : PyData) (S : Sto)
  | bk (sl : Sl) (S : Sto)
  | ct (sl : Sl) (S : Sto)
  | er (e : Exn) (sl : Sl) (S : Sto)
  | bad
abbrev DS := Sl → Sto → RS
section
variable (K : PySem.W.Frag) (mg : Str → Option Value) (W : WX)
def AtS (ι : Nat → Addr) (F H : Hp) (n : Nat) (sl' : Sl) (S' : Sto) (P : CxSt → Hp → Prop) : Prop := ∀ ι' F' H' σ', Stp ι F H n ι' F' H' S'.length → Rel K ι' F' H' S' → sl'.length ≤ σ'.length → SlR K ι' F' S'.length σ' sl' → P σ' H'
def AftS (D : Ends) (ι : Nat → Addr) (F H : Hp) (n : Nat) : RS → Prop
  | .nx sl' S' => AtS K ι F H n sl' S' D.nx
  | .bk sl' S' => AtS K ι F H n sl' S' D.bk
  | .ct sl' S' => AtS K ι F H n sl' S' D.ct
  | .rt d S' => ∀ ι' F' H' v, Stp ι F H n ι' F' H' S'.length → Rel K ι' F' H' S' → Dq K F' v d → D.rt v H'
  | .er e sl' S' => ∀ ι' F' H' σ' cls dd, Stp ι F H n ι' F' H' S'.length → Rel K ι' F' H' S' → sl'.length ≤ σ'.length → SlR K ι' F' S'.length σ' sl' → ErrR K mg F' e cls dd H' → W cls dd σ' H'
  | .bad => False
def tS (g : DS) : TS := fun D σ H => ∃ ι F S sl, sl.length ≤ σ.length ∧ SlR K ι F S.length σ sl ∧ Rel K ι F H S ∧ AftS K mg W D ι F H S.length (g sl S)
end
def QS (X : Cx) (W : WX) (st : Stmt) (g : DS) : Prop := PS X st (tS X.K X.mg W g)
def QB (X : Cx) (W : WX) (sts : List Stmt) (g : DS) : Prop := PSs X sts (tS X.K X.mg W g)
theorem PS.imp {X : Cx} {e : Stmt} {t t' : TS} (h : PS X e t) (k : ∀ D σ H, t' D σ H → t D σ H) : PS X e t' := ⟨fun pins s σ H D I q => h.run pins s σ H D I (k _ _ _ q)⟩
theorem PSs.imp {X : Cx} {e : List Stmt} {t t' : TS} (h : PSs X e t) (k : ∀ D σ H, t' D σ H → t D σ H) : PSs X e t' := ⟨fun pins s σ H D I q => h.run pins s σ H D I (k _ _ _ q)⟩
section
variable {K : PySem.W.Frag} {mg : Str → Option Value} {W : WX} {D : Ends} {ι ι1 : Nat → Addr} {F F1 H H1 : Hp} {n n1 : Nat} {σ : CxSt} {sl : Sl} {S : Sto}
theorem AftS.stp {r : RS} (h : AftS K mg W D ι F H n r) (s : Stp ι F H n ι1 F1 H1 n1) : AftS K mg W D ι1 F1 H1 n1 r := by
  cases r with
  | nx sl' S' => exact fun ι' F' H' σ' s' => h ι' F' H' σ' (s.trans s')
  | bk sl' S' => exact fun ι' F' H' σ' s' => h ι' F' H' σ' (s.trans s')
  | ct sl' S' => exact fun ι' F' H' σ' s' => h ι' F' H' σ' (s.trans s')
  | rt d S' => exact fun ι' F' H' v s' => h ι' F' H' v (s.trans s')
  | er e sl' S' => exact fun ι' F' H' σ' cls dd s' => h ι' F' H' σ' cls dd (s.trans s')
  | bad => exact h
/-- from a reckoning to a statement -/
def thenS {α : Type} (r : R α) (sl : Sl) (k : α → Sto → RS) : RS := match r with
  | .ok a S => k a S
  | .er e S => .er e sl S
  | .bad => .bad
theorem AftS.bind {α : Type} {r : R α} {k : α → Sto → RS} (hz : sl.length ≤ σ.length) (hs : SlR K ι F n σ sl) (h : AftS K mg W D ι F H n (thenS r sl k)) :
    Aft K mg W σ ι F H n r fun a S1 ι1 F1 H1 => Stp ι F H n ι1 F1 H1 S1.length ∧ Rel K ι1 F1 H1 S1 ∧ AftS K mg W D ι1 F1 H1 S1.length (k a S1) := by
  cases r with
  | ok a S1 => exact fun ι1 F1 H1 s rel => ⟨s, rel, AftS.stp (r := k a S1) h s⟩
  | er e S1 => exact fun ι1 F1 H1 cls d s rel er => h ι1 F1 H1 σ cls d s rel hz (hs.stp s) er
  | bad => exact h
end

section
variable {X : Cx} {W : WX} {a b c e : Expr} {es : List Expr} {fa fb fc f : DE} {la : DL} {ba : DB} {pos p p2 : Pos} {st : Stmt} {sts sts2 : List Stmt} {g g2 : DS}
/-! ### blocks -/
def nilS : DS := fun sl S => .nx sl S
def seqS (g g2 : DS) : DS := fun sl S => match g sl S with
  | .nx sl' S' => g2 sl' S'
  | r => r
theorem b_nil : QB X W [] nilS := PSs.imp pss_nil fun D σ H ⟨ι, F, S, sl, hz, hs, rel, q⟩ => q ι F H σ .refl rel hz hs
theorem seq_ok {K : PySem.W.Frag} {mg : Str → Option Value} {W : WX} {D : Ends} {σ : CxSt} {H : Hp} (h : tS K mg W (seqS g g2) D σ H) : tS K mg W g { D with nx := tS K mg W g2 D } σ H := by
  obtain ⟨ι, F, S, sl, hz, hs, rel, q⟩ := h
  refine ⟨ι, F, S, sl, hz, hs, rel, ?_⟩
  unfold seqS at q
  cases eg : g sl S with
  | nx sl' S' =>
    rw [eg] at q
    exact fun ι' F' H' σ' s' r' z' h' => ⟨ι', F', S', sl', z', h', r', AftS.stp (r := g2 sl' S') q s'⟩
  | bk sl' S' => rw [eg] at q; exact q
  | ct sl' S' => rw [eg] at q; exact q
  | rt d S' => rw [eg] at q; exact q
  | er x sl' S' => rw [eg] at q; exact q
  | bad => rw [eg] at q; exact q
theorem b_cons (h : QS X W st g) (hr : QB X W sts g2) : QB X W (st :: sts) (seqS g g2) := PSs.imp (pss_cons h hr) fun D σ H q => seq_ok q
theorem b_one (h : QS X W st g) : QB X W [st] g := pss_one h
/-- code that is never reached -/
def badS : DS := fun _ _ => .bad
theorem s_bad : QS X W st badS := PS.imp ps_never fun D σ H ⟨ι, F, S, sl, hz, hs, rel, q⟩ => q.elim
theorem b_bad : QB X W sts badS := PSs.imp pss_never fun D σ H ⟨ι, F, S, sl, hz, hs, rel, q⟩ => q.elim
def badE : DE := fun _ _ => .bad
theorem q_bad : QE X W e badE := ⟨fun pins s σ H Q I ⟨ι, F, S, sl, hz, hs, rel, q⟩ => q.elim⟩

/-! ### simple statements -/
theorem s_pass : QS X W (.Pass pos) nilS := PS.imp ps_pass fun D σ H ⟨ι, F, S, sl, hz, hs, rel, q⟩ => q ι F H σ .refl rel hz hs
def brkS : DS := fun sl S => .bk sl S
def cntS : DS := fun sl S => .ct sl S
theorem s_break : QS X W (.Break pos) brkS := PS.imp ps_break fun D σ H ⟨ι, F, S, sl, hz, hs, rel, q⟩ => q ι F H σ .refl rel hz hs
theorem s_cont : QS X W (.Continue pos) cntS := PS.imp ps_continue fun D σ H ⟨ι, F, S, sl, hz, hs, rel, q⟩ => q ι F H σ .refl rel hz hs
def exS (f : DE) : DS := fun sl S => thenS (f sl S) sl fun _ S1 => .nx sl S1
theorem s_expr (h : QE X W e f) (hs : swapsWith e none pos.line X.env = pure false := by rfl) : QS X W (.Expr e pos) (exS f) := by
  refine PS.imp (ps_expr h hs) fun D σ H ⟨ι, F, S, sl, hz, hs, rel, q⟩ => ?_
  exact ⟨ι, F, S, sl, hz, hs, rel, Aft.imp (AftS.bind hz hs q) fun x S1 ι1 F1 H1 ⟨s1, r1, h1⟩ u ru => h1 ι1 F1 H1 σ .refl r1 hz (hs.stp s1)⟩
def rtS (f : DE) : DS := fun sl S => thenS (f sl S) sl fun x S1 => match frz S1 x with
  | some (d, S2) => .rt d S2
  | none => .bad
theorem s_ret (h : QE X W e f) : QS X W (.Return (some e) pos) (rtS f) := by
  refine PS.imp (ps_ret h) fun D σ H ⟨ι, F, S, sl, hz, hs, rel, q⟩ => ?_
  refine ⟨ι, F, S, sl, hz, hs, rel, Aft.imp (AftS.bind hz hs q) fun x S1 ι1 F1 H1 ⟨s1, r1, h1⟩ u ru => ?_⟩
  split at h1
  · rename_i d S2 e2
    obtain ⟨F2, g2, d2⟩ := frz_ok e2 r1 ru
    exact h1 ι1 F2 H1 u g2.2.1 g2.2.2 d2
  · exact h1.elim
def rnS : DS := fun _ S => .rt .none S
theorem s_retN : QS X W (.Return none pos) rnS := PS.imp ps_retN fun D σ H ⟨ι, F, S, sl, hz, hs, rel, q⟩ => q ι F H .non .refl rel .non
def ifS (c : DB) (g g2 : DS) : DS := fun sl S => thenS (c sl S) sl fun b S1 => if b = true then g sl S1 else g2 sl S1
theorem s_if (hc : QT X W c ba) (h : QB X W sts g) (h2 : QB X W sts2 g2) : QS X W (.If c sts sts2 pos) (ifS ba g g2) := by
  refine PS.imp (ps_if hc h h2) fun D σ H ⟨ι, F, S, sl, hz, hs, rel, q⟩ => ?_
  refine ⟨ι, F, S, sl, hz, hs, rel, Aft.imp (AftS.bind hz hs q) fun k S1 ι1 F1 H1 ⟨s1, r1, h1⟩ => ?_⟩
  cases k with
  | true => exact iteT ⟨ι1, F1, S1, sl, hz, hs.stp s1, r1, by simpa using h1⟩
  | false => exact iteF ⟨ι1, F1, S1, sl, hz, hs.stp s1, r1, by simpa using h1⟩

/-! ### assignments -/
def asgS (i : Nat) (f : DE) : DS := fun sl S => thenS (f sl S) sl fun x S1 => .nx (sl.set i (some x)) S1
theorem asg_ok {K : PySem.W.Frag} {mg : Str → Option Value} {i : Nat} {D : Ends} {σ : CxSt} {H : Hp} (q : tS K mg W (asgS i f) D σ H) : tAsg (tE K mg W f) (gName i) D σ H := by
  obtain ⟨ι, F, S, sl, hz, hs, rel, q⟩ := q
  exact ⟨ι, F, S, sl, hz, hs, rel, Aft.imp (AftS.bind hz hs q) fun x S1 ι1 F1 H1 ⟨s1, r1, h1⟩ u ru => h1 ι1 F1 H1 _ .refl r1 (by simpa using hz) ((hs.stp s1).set hz ru)⟩
theorem s_set {i : Nat} (h : PS X st (tAsg (tE X.K X.mg W f) (gName i))) : QS X W st (asgS i f) := PS.imp h fun D σ H q => asg_ok q
/-- a tuple of data taken apart -/
def unpS (t : Tg) (f : DE) : DS := fun sl S => thenS (f sl S) sl fun x S1 => match x with
  | .d d => match setT t d sl with
    | some sl' => .nx sl' S1
    | none => .bad
  | _ => .bad
theorem s_unp {t : Tg} (h : PS X st (tAsg (tE X.K X.mg W f) (t.g X.K))) : QS X W st (unpS t f) := by
  refine PS.imp h fun D σ H ⟨ι, F, S, sl, hz, hs, rel, q⟩ => ?_
  refine ⟨ι, F, S, sl, hz, hs, rel, Aft.imp (AftS.bind hz hs q) fun x S1 ι1 F1 H1 ⟨s1, r1, h1⟩ u ru => ?_⟩
  split at h1
  · rename_i d
    split at h1
    · rename_i sl' e1
      exact Tg.ok e1 ru r1.sub (hs.stp s1) hz fun σ2 h2 l2 l3 _ => h1 ι1 F1 H1 σ2 .refl r1 (by rw [l2, l3]; exact hz) h2
    · exact h1.elim
  · exact h1.elim
/-- several names at once, whatever they get -/
def setV : List Nat → List Val → Sl → Option Sl
  | [], [], sl => some sl
  | i :: is, x :: xs, sl => setV is xs (sl.set i (some x))
  | _, _, _ => none
def parS (is : List Nat) (la : DL) : DS := fun sl S => thenS (la sl S) sl fun xs S1 => match setV is xs sl with
  | some sl' => if is.length ≤ 1000 then .nx sl' S1 else .bad
  | none => .bad
theorem setV_len : ∀ {is : List Nat} {xs : List Val} {sl sl' : Sl}, setV is xs sl = some sl' → xs.length = is.length
  | [], [], _, _, _ => rfl
  | i :: is, d :: ds, sl, sl', e => by
    unfold setV at e
    simp [setV_len e]
  | [], _ :: _, _, _, e => by simp [setV] at e
  | _ :: _, [], _, _, e => by simp [setV] at e
theorem gNames_okV {K : PySem.W.Frag} {ι : Nat → Addr} {F H : Hp} {n : Nat} : ∀ {is : List Nat} {xs : List Val} {us : List V} {σ : CxSt} {sl sl' : Sl} {Q : CxSt → Hp → Prop}, setV is xs sl = some sl' → RVs K ι F n us xs → SlR K ι F n σ sl → sl.length ≤ σ.length →
    (∀ σ2, SlR K ι F n σ2 sl' → sl'.length ≤ σ2.length → Q σ2 H) → gNames is us σ H Q
  | [], [], us, σ, sl, sl', Q, e, d, hs, hz, k => by
    cases d
    simp [setV] at e
    subst e
    exact ⟨rfl, k σ hs hz⟩
  | i :: is, dd :: ds, us, σ, sl, sl', Q, e, d, hs, hz, k => by
    cases d with
    | cons a b =>
      unfold setV at e
      exact ⟨_, _, rfl, gNames_okV (sl := sl.set i (some dd)) e b (hs.set hz a) (by simpa using hz) k⟩
  | [], _ :: _, _, _, _, _, _, e, _, _, _, _ => by simp [setV] at e
  | _ :: _, [], _, _, _, _, _, e, _, _, _, _ => by simp [setV] at e
theorem par_ok {K : PySem.W.Frag} {mg : Str → Option Value} {is : List Nat} {D : Ends} {σ : CxSt} {H : Hp} (q : tS K mg W (parS is la) D σ H) {R : TS} (hR : ∀ us H1, gNames is us σ H1 D.nx → us.length = is.length → is.length ≤ 1000 → (∀ p, H1 p = none → gNames is us σ (upd H1 p (.tup us)) D.nx) → R D σ H1) :
    tL K mg W la σ H fun us H1 => us.length = is.length ∧ is.length ≤ 1000 ∧ gNames is us σ H1 D.nx ∧ ∀ p, H1 p = none → gNames is us σ (upd H1 p (.tup us)) D.nx := by
  obtain ⟨ι, F, S, sl, hz, hs, rel, q⟩ := q
  refine ⟨ι, F, S, sl, hz, hs, rel, Aft.imp (AftS.bind hz hs q) fun xs S1 ι1 F1 H1 ⟨s1, r1, h1⟩ us rus => ?_⟩
  split at h1
  · rename_i sl' e1
    split at h1
    · rename_i h1000
      refine ⟨by rw [rus.length]; exact setV_len e1, h1000, gNames_okV e1 rus (hs.stp s1) hz fun σ2 h2 z2 => h1 ι1 F1 H1 σ2 .refl r1 z2 h2, fun p hp => ?_⟩
      have g : Grow F1 H1 F1 (upd H1 p (.tup us)) := ⟨Same.refl _, fun a o h => by rw [upd_ne (ne_of_none h hp)]; exact h, fun a o h => by rw [upd_ne (ne_of_none (r1.sub _ _ h) hp)]; exact r1.sub _ _ h, fun a o h => .inl h⟩
      exact gNames_okV e1 rus (hs.stp s1) hz fun σ2 h2 z2 => h1 ι1 F1 _ σ2 g.stp (r1.grow g) z2 h2
    · exact h1.elim
  · exact h1.elim
/-- .. the pair made and taken apart -/
theorem s_parT {is : List Nat} (h : PS X st (tAsg (tTup (tL X.K X.mg W la)) (gTup X.K is.length (gNames is)))) : QS X W st (parS is la) := by
  refine PS.imp h fun D σ H q => ?_
  obtain ⟨ι, F, S, sl, hz, hs, rel, q⟩ := par_ok q (R := fun _ _ _ => True) fun _ _ _ _ _ _ => trivial
  refine ⟨ι, F, S, sl, hz, hs, rel, Aft.imp q fun xs S1 ι1 F1 H1 k us rus => ?_⟩
  obtain ⟨e1, h1000, _, k⟩ := k us rus
  exact ⟨by rw [e1]; exact Nat.le_trans h1000 (by decide), fun p hp => ⟨p, us, rfl, SqT.of upd_same, e1, k p hp⟩⟩
/-- .. or stored at once -/
theorem s_par {i j : Nat} (h : PS X st (tPar i j (tL X.K X.mg W la))) : QS X W st (parS [i, j] la) := by
  refine PS.imp h fun D σ H q => ?_
  obtain ⟨ι, F, S, sl, hz, hs, rel, q⟩ := par_ok q (R := fun _ _ _ => True) fun _ _ _ _ _ _ => trivial
  refine ⟨ι, F, S, sl, hz, hs, rel, Aft.imp q fun xs S1 ι1 F1 H1 k us rus => ?_⟩
  obtain ⟨e1, _, k, _⟩ := k us rus
  obtain ⟨v, r, rfl, w, r2, rfl, rfl, k⟩ := k
  exact ⟨v, w, rfl, k⟩
theorem s_par3 {i j l : Nat} (h : PS X st (tPar3 i j l (tL X.K X.mg W la))) : QS X W st (parS [i, j, l] la) := by
  refine PS.imp h fun D σ H q => ?_
  obtain ⟨ι, F, S, sl, hz, hs, rel, q⟩ := par_ok q (R := fun _ _ _ => True) fun _ _ _ _ _ _ => trivial
  refine ⟨ι, F, S, sl, hz, hs, rel, Aft.imp q fun xs S1 ι1 F1 H1 k us rus => ?_⟩
  obtain ⟨e1, _, k, _⟩ := k us rus
  obtain ⟨u, r, rfl, v, r2, rfl, w, r3, rfl, rfl, k⟩ := k
  exact ⟨u, v, w, rfl, k⟩
end

/-! ### an owned list is changed -/
section
variable {K : PySem.W.Frag} {ι : Nat → Addr} {F H : Hp} {S : Sto}
theorem own_set {k : Nat} {xs ys : List Val} {us : List V} (rel : Rel K ι F H S) (e : S[k]? = some (.lst xs)) (ru : RVs K ι F S.length us ys) :
    Stp ι F H S.length ι F (upd H (ι k) (.lst us)) (S.set k (.lst ys)).length ∧ Rel K ι F (upd H (ι k) (.lst us)) (S.set k (.lst ys)) := by
  have hk : k < S.length := (List.getElem?_eq_some_iff.mp e).1
  obtain ⟨f0, vs, h1, _⟩ := rel.obj k _ e
  rw [List.length_set]
  refine ⟨⟨Nat.le_refl _, fun _ _ => rfl, Same.refl _, fun a o h hn => ?_, fun a o h => ?_, fun _ h1 h2 => absurd (Nat.lt_of_le_of_lt h1 h2) (Nat.lt_irrefl _), fun a o h => .inl h⟩, fun a o h => ?_, fun i j hi hj => rel.inj i j (by simpa using hi) (by simpa using hj), fun j o ej => ?_⟩
  · rw [upd_ne (Ne.symm (hn k hk))]; exact h
  · by_cases q : a = ι k
    · exact ⟨_, by rw [q]; exact upd_same⟩
    · exact ⟨o, by rw [upd_ne q]; exact h⟩
  · by_cases q : a = ι k
    · subst q; rw [f0] at h; cases h
    · rw [upd_ne q]; exact rel.sub _ _ h
  · rw [List.length_set]
    by_cases q : j = k
    · subst q
      rw [List.getElem?_set_self hk] at ej
      cases ej
      exact ⟨f0, us, upd_same, ru⟩
    · rw [List.getElem?_set_ne (Ne.symm q)] at ej
      have hj : j < S.length := (List.getElem?_eq_some_iff.mp ej).1
      have := rel.obj j o ej
      cases o with
      | frz x => exact this
      | lst zs =>
        obtain ⟨g0, ws, g1, g2⟩ := this
        exact ⟨g0, ws, by rw [upd_ne fun e => q (rel.inj j k hj hk e)]; exact g1, g2⟩
end
/-- the owned list that an operand is -/
def lstAt (S : Sto) : Val → Option (Nat × List Val)
  | .loc k => match S[k]? with
    | some (.lst xs) => some (k, xs)
    | _ => none
  | _ => none
theorem lstAt_eq {S : Sto} {x : Val} {k : Nat} {xs : List Val} (h : lstAt S x = some (k, xs)) : x = .loc k ∧ S[k]? = some (.lst xs) := by
  unfold lstAt at h
  split at h
  · split at h
    · cases h; exact ⟨rfl, by assumption⟩
    · cases h
  · cases h
section
variable {X : Cx} {W : WX} {a b c e o : Expr} {es : List Expr} {fa fb fc f : DE} {la : DL} {ba : DB} {pos p p2 : Pos} {st : Stmt} {sts sts2 : List Stmt} {g g2 : DS}
/-- a change of an owned list that hands something back -/
def metE (m : List Val → List Val → Option (Val × List Val)) (fo : DE) (la : DL) : DE := fun sl S => (fo sl S).bind fun x S1 => match lstAt S1 x with
  | none => .bad
  | some _ => (la sl S1).bind fun ys S2 => match lstAt S2 x with
    | some (k, xs) => match m xs ys with
      | some (z, xs') => .ok z (S2.set k (.lst xs'))
      | none => .bad
    | none => .bad
/-- a rule that serves such a change -/
def MeD (r : V → List V → Hp → VK → Prop) (m : List Val → List Val → Option (Val × List Val)) : Prop :=
  ∀ (K : PySem.W.Frag) (ι : Nat → Addr) (F H : Hp) (n : Nat) (l : Addr) (vs us : List V) (xs ys : List Val) (z : Val) (xs' : List Val) (Q : VK), m xs ys = some (z, xs') → H l = some (.lst vs) → RVs K ι F n vs xs → RVs K ι F n us ys →
    (∀ v vs', RV K ι F n v z → RVs K ι F n vs' xs' → Q v (upd H l (.lst vs'))) → r (.ref l) us H Q
theorem met_ok {K : PySem.W.Frag} {mg : Str → Option Value} {r : V → List V → Hp → VK → Prop} {m : List Val → List Val → Option (Val × List Val)} (hm : MeD r m) {σ : CxSt} {H : Hp} {Q : VK} (h : tE K mg W (metE m f la) σ H Q) :
    tE K mg W f σ H fun x H1 => tyV K "list" x H1 ∧ tL K mg W la σ H1 fun us H2 => r x us H2 Q := by
  obtain ⟨ι, F, S, sl, hz, hs, rel, q⟩ := h
  refine ⟨ι, F, S, sl, hz, hs, rel, Aft.imp (Aft.bind q) fun x S1 ι1 F1 H1 ⟨s1, r1, h1⟩ u ru => ?_⟩
  split at h1
  · exact h1.elim
  · rename_i q0 e0
    obtain ⟨k0, xs0⟩ := q0
    obtain ⟨ex0, e00⟩ := lstAt_eq e0
    subst ex0
    obtain ⟨_, vs0, h0, _⟩ := r1.obj _ _ e00
    obtain ⟨hk0, rfl⟩ := ru
    refine ⟨.inl ⟨rfl, vs0, SqL.of h0⟩, ι1, F1, S1, sl, hz, hs.stp s1, r1, Aft.imp h1.bind fun ys S2 ι2 F2 H2 ⟨s2, r2, h2⟩ us rus => ?_⟩
    split at h2
    · rename_i k xs e2
      obtain ⟨e3, e2⟩ := lstAt_eq e2
      cases e3
      split at h2
      · rename_i z xs' em
        obtain ⟨_, vs, h3, h4⟩ := r2.obj _ _ e2
        rw [← s2.ag k0 hk0]
        refine hm K ι2 F2 H2 S2.length (ι2 k0) vs us xs ys z xs' Q em h3 h4 rus fun v vs' rz rv => ?_
        obtain ⟨st, r'⟩ := own_set r2 e2 rv
        exact h2 ι2 F2 _ st r' v (rz.stp st)
      · exact h2.elim
    · exact h2.elim
theorem q_met {r : V → List V → Hp → VK → Prop} {m : List Val → List Val → Option (Val × List Val)} (hm : MeD r m) (h : PE X e (tBM X.K "list" r (tE X.K X.mg W f) (tL X.K X.mg W la))) : QE X W e (metE m f la) := PE.imp h fun σ H Q q => met_ok hm q
theorem q_met0 {r : V → List V → Hp → VK → Prop} {m : List Val → List Val → Option (Val × List Val)} (hm : MeD r m) (h : PE X e (tBM0 X.K "list" r (tE X.K X.mg W f))) : QE X W e (metE m f nilL) := by
  refine PE.imp h fun σ H Q q => ?_
  obtain ⟨ι, F, S, sl, hz, hs, rel, q⟩ := met_ok hm q
  refine ⟨ι, F, S, sl, hz, hs, rel, Aft.imp q fun x S1 ι1 F1 H1 k u ru => ?_⟩
  obtain ⟨k1, ι2, F2, S2, sl2, hz2, hs2, rel2, q2⟩ := k u ru
  exact ⟨k1, q2 ι2 F2 H1 .refl rel2 [] .nil⟩
def appM : List Val → List Val → Option (Val × List Val) := fun xs ys => match ys with
  | [y] => if xs.length < sizeLine then some (.d .none, xs ++ [y]) else none
  | _ => none
theorem RVs.one {K : PySem.W.Frag} {ι : Nat → Addr} {F : Hp} {n : Nat} {us : List V} {y : Val} (h : RVs K ι F n us [y]) : ∃ u, us = [u] ∧ RV K ι F n u y := by
  cases h with
  | cons a b => cases b; exact ⟨_, rfl, a⟩
theorem m_app : MeD rAppend appM := fun K ι F H n l vs us xs ys z xs' Q e h1 rx ry k => by
  unfold appM at e
  split at e
  · split at e
    · rename_i hl
      cases e
      obtain ⟨u, rfl, ru⟩ := ry.one
      exact ⟨l, vs, u, rfl, rfl, h1, by rw [rx.length]; exact hl, k _ _ Dq.non (rx.append (.cons ru .nil))⟩
    · cases e
  · cases e
def popM : List Val → List Val → Option (Val × List Val) := fun xs ys => match ys with
  | [] => match xs[xs.length - 1]? with
    | some z => some (z, xs.dropLast)
    | none => none
  | _ => none
theorem RVs.dropLast {K : PySem.W.Frag} {ι : Nat → Addr} {F : Hp} {n : Nat} {vs : List V} {xs : List Val} (h : RVs K ι F n vs xs) : RVs K ι F n vs.dropLast xs.dropLast := by
  induction h with
  | nil => exact .nil
  | cons a t ih =>
    cases t with
    | nil => exact .nil
    | cons b t => exact .cons a ih
theorem RVs.eraseIdx {K : PySem.W.Frag} {ι : Nat → Addr} {F : Hp} {n : Nat} {vs : List V} {xs : List Val} (h : RVs K ι F n vs xs) : ∀ k, RVs K ι F n (vs.eraseIdx k) (xs.eraseIdx k) := by
  induction h with
  | nil => intro k; exact .nil
  | cons a t ih =>
    intro k
    cases k with
    | zero => exact t
    | succ k => exact .cons a (ih k)
theorem m_pop : MeD rPop popM := fun K ι F H n l vs us xs ys z xs' Q e h1 rx ry k => by
  unfold popM at e
  split at e
  · split at e
    · rename_i y ey
      cases e
      cases ry
      obtain ⟨v, ev, rv⟩ := rx.get ey
      exact ⟨l, vs, v, rfl, rfl, h1, by rw [rx.length]; exact ev, k v _ rv rx.dropLast⟩
    · cases e
  · cases e
def popAtM : List Val → List Val → Option (Val × List Val) := fun xs ys => match ys with
  | [.d (.int i)] => if decide (-(2 ^ 63) ≤ i) && decide (i < 2 ^ 63) then match seqIndex? i xs.length with
      | some k => match xs[k]? with
        | some z => some (z, xs.eraseIdx k)
        | none => none
      | none => none else none
  | _ => none
theorem m_popAt : MeD rPopAt popAtM := fun K ι F H n l vs us xs ys z xs' Q e h1 rx ry k => by
  unfold popAtM at e
  split at e
  · split at e
    · rename_i c
      simp only [Bool.and_eq_true, decide_eq_true_eq] at c
      split at e
      · rename_i j ej
        split at e
        · rename_i y ey
          cases e
          obtain ⟨u, rfl, ru⟩ := ry.one
          cases ru
          obtain ⟨v, ev, rv⟩ := rx.get ey
          exact ⟨l, vs, _, j, v, rfl, rfl, h1, c.1, c.2, by rw [rx.length]; exact ej, ev, k v _ rv (rx.eraseIdx j)⟩
        · cases e
      · cases e
    · cases e
  · cases e
def extM (S : Sto) : List Val → List Val → Option (Val × List Val) := fun xs ys => match ys with
  | [.d (.list ds)] => if xs.length + ds.length ≤ sizeLine then some (.d .none, xs ++ ds.map .d) else none
  | _ => none
/-- o[i] = v -/
def putV (S : Sto) (x y z : Val) : Option Sto := match lstAt S x with
  | some (k, xs) => match y with
    | .d (.int i) => match ixN xs.length i with
      | some j => some (S.set k (.lst (xs.set j z)))
      | none => none
    | _ => none
  | none => none
theorem putV_ok {K : PySem.W.Frag} {ι : Nat → Addr} {F H : Hp} {S S' : Sto} {x y z : Val} {u v w : V} {Q : Hp → Prop} (rel : Rel K ι F H S) (e : putV S x y z = some S') (ru : RV K ι F S.length u x) (rv : RV K ι F S.length v y) (rw' : RV K ι F S.length w z)
    (k : ∀ H', Stp ι F H S.length ι F H' S'.length → Rel K ι F H' S' → Q H') : rSetL u v w H Q := by
  unfold putV at e
  split at e
  · rename_i k0 xs e0
    obtain ⟨ex0, e00⟩ := lstAt_eq e0
    subst ex0
    split at e
    · rename_i i
      split at e
      · rename_i j ej
        cases e
        cases rv
        obtain ⟨hk, rfl⟩ := ru
        obtain ⟨_, vs, h1, h2⟩ := rel.obj _ _ e00
        refine ⟨_, vs, i, j, rfl, rfl, h1, by rw [h2.length]; exact ej, ?_⟩
        obtain ⟨st, r'⟩ := own_set rel e00 (h2.set rw' j)
        exact k _ st r'
      · cases e
    · cases e
  · cases e
def putS (fv fo fi : DE) : DS := fun sl S => thenS (fv sl S) sl fun z S1 => thenS (fo sl S1) sl fun x S2 => thenS (fi sl S2) sl fun y S3 => match putV S3 x y z with
  | some S4 => .nx sl S4
  | none => .bad
theorem s_put (h : PS X st (tAsg (tE X.K X.mg W fc) (gSub (tE X.K X.mg W fa) (tE X.K X.mg W fb) rSetL))) : QS X W st (putS fc fa fb) := by
  refine PS.imp h fun D σ H ⟨ι, F, S, sl, hz, hs, rel, q⟩ => ?_
  refine ⟨ι, F, S, sl, hz, hs, rel, Aft.imp (AftS.bind hz hs q) fun z S1 ι1 F1 H1 ⟨s1, r1, h1⟩ w rw' => ?_⟩
  refine ⟨ι1, F1, S1, sl, hz, hs.stp s1, r1, Aft.imp (AftS.bind hz (hs.stp s1) h1) fun x S2 ι2 F2 H2 ⟨s2, r2, h2⟩ u ru => ?_⟩
  refine ⟨ι2, F2, S2, sl, hz, (hs.stp s1).stp s2, r2, Aft.imp (AftS.bind hz ((hs.stp s1).stp s2) h2) fun y S3 ι3 F3 H3 ⟨s3, r3, h3⟩ v rv => ?_⟩
  split at h3
  · rename_i S4 e4
    exact putV_ok r3 e4 (ru.stp s3) rv ((rw'.stp s2).stp s3) fun H' st r' => h3 ι3 F3 H' σ st r' hz ((((hs.stp s1).stp s2).stp s3).stp st)
  · exact h3.elim
/-- o[i], o2[i2] = v, w -/
def put2S (fv fo fi fo2 fi2 : DE) : DS := fun sl S => thenS (fv sl S) sl fun d S1 => match d with
  | .d (.tuple [z, z2]) => thenS (fo sl S1) sl fun x S2 => thenS (fi sl S2) sl fun y S3 => match putV S3 x y (.d z) with
    | some S4 => thenS (fo2 sl S4) sl fun x2 S5 => thenS (fi2 sl S5) sl fun y2 S6 => match putV S6 x2 y2 (.d z2) with
      | some S7 => .nx sl S7
      | none => .bad
    | none => .bad
  | _ => .bad
theorem s_put2 {fd fe : DE} (h : PS X st (tAsg (tE X.K X.mg W fc) (gTup X.K 2 (gCons (gSub (tE X.K X.mg W fa) (tE X.K X.mg W fb) rSetL) (gCons (gSub (tE X.K X.mg W fd) (tE X.K X.mg W fe) rSetL) gNil))))) : QS X W st (put2S fc fa fb fd fe) := by
  refine PS.imp h fun D σ H ⟨ι, F, S, sl, hz, hs, rel, q⟩ => ?_
  refine ⟨ι, F, S, sl, hz, hs, rel, Aft.imp (AftS.bind hz hs q) fun z S1 ι1 F1 H1 ⟨s1, r1, h1⟩ w rw' => ?_⟩
  split at h1
  · rename_i z1 z2
    have hs1 := hs.stp s1
    cases rw' with
    | tup q1 dd =>
      cases dd with
      | cons d1 dd =>
        cases dd with
        | cons d2 dd =>
          cases dd
          refine ⟨_, _, rfl, SqT.mono r1.sub q1, rfl, _, _, rfl, ?_⟩
          refine ⟨ι1, F1, S1, sl, hz, hs1, r1, Aft.imp (AftS.bind hz hs1 h1) fun x S2 ι2 F2 H2 ⟨s2, r2, h2⟩ u ru => ?_⟩
          have hs2 := hs1.stp s2
          refine ⟨ι2, F2, S2, sl, hz, hs2, r2, Aft.imp (AftS.bind hz hs2 h2) fun y S3 ι3 F3 H3 ⟨s3, r3, h3⟩ v rv => ?_⟩
          have hs3 := hs2.stp s3
          split at h3
          · rename_i S4 e4
            refine putV_ok r3 e4 (ru.stp s3) rv (Dq.mono (s2.trans s3).ff _ _ d1) fun H4 st r4 => ⟨_, _, rfl, ?_⟩
            have hs4 := hs3.stp st
            have h4 := AftS.stp h3 st
            refine ⟨ι3, F3, S4, sl, hz, hs4, r4, Aft.imp (AftS.bind hz hs4 h4) fun x2 S5 ι5 F5 H5 ⟨s5, r5, h5⟩ u2 ru2 => ?_⟩
            have hs5 := hs4.stp s5
            refine ⟨ι5, F5, S5, sl, hz, hs5, r5, Aft.imp (AftS.bind hz hs5 h5) fun y2 S6 ι6 F6 H6 ⟨s6, r6, h6⟩ v2 rv2 => ?_⟩
            have hs6 := hs5.stp s6
            split at h6
            · rename_i S7 e7
              refine putV_ok r6 e7 (ru2.stp s6) rv2 (Dq.mono ((((s2.trans s3).trans st).trans s5).trans s6).ff _ _ d2) fun H7 st7 r7 => ⟨rfl, h6 ι6 F6 H7 σ st7 r7 hz (hs6.stp st7)⟩
            · exact h6.elim
          · exact h3.elim
  · exact h1.elim
end
end DV
set_option Elab.async false
set_option linter.all false
set_option maxRecDepth 100000
namespace DV
open PySem PySem.Spec PyProof.Rows L2

/-! ### for, while -/
def fgo (tg : Tg) (g : DS) : List PyData → Sl → Sto → RS
  | [], sl, S => .nx sl S
  | d :: ds, sl, S => match setT tg d sl with
    | none => .bad
    | some sl1 => match g sl1 S with
      | .nx sl2 S2 => fgo tg g ds sl2 S2
      | .ct sl2 S2 => fgo tg g ds sl2 S2
      | .bk sl2 S2 => .nx sl2 S2
      | .rt d S2 => .rt d S2
      | .er e sl2 S2 => .er e sl2 S2
      | .bad => .bad
def forS (it : IT) (tg : Tg) (g : DS) : DS := fun sl S => thenS (it sl S) sl fun ds S1 => fgo tg g ds sl S1
def wgo (c : DB) (g : DS) : Nat → Sl → Sto → RS
  | 0, _, _ => .bad
  | n + 1, sl, S => thenS (c sl S) sl fun b S1 => if b = true then match g sl S1 with
      | .nx sl2 S2 => wgo c g n sl2 S2
      | .ct sl2 S2 => wgo c g n sl2 S2
      | .bk sl2 S2 => .nx sl2 S2
      | .rt d S2 => .rt d S2
      | .er e sl2 S2 => .er e sl2 S2
      | .bad => .bad
    else .nx sl S1
def whS (n : Nat) (c : DB) (g : DS) : DS := wgo c g n
section
variable {K : PySem.W.Frag} {mg : Str → Option Value} {W : WX} {D : Ends} {σ : CxSt} {H : Hp}
theorem for_ok {it : IT} {tg : Tg} {g : DS} (q : tS K mg W (forS it tg g) D σ H) : tFor (tI K mg W it) (tg.g K) (tS K mg W g) D σ H := by
  obtain ⟨ι, F, S, sl, hz, hs, rel, q⟩ := q
  refine ⟨ι, F, S, sl, hz, hs, rel, Aft.imp (AftS.bind hz hs q) fun items S1 ι1 F1 H1 ⟨s1, r1, h1⟩ J hJ => ?_⟩
  refine ⟨fun i m σ H => m = items.length - i ∧ i ≤ items.length ∧ ∃ ι F S sl, Same F1 F ∧ sl.length ≤ σ.length ∧ SlR K ι F S.length σ sl ∧ Rel K ι F H S ∧ AftS K mg W D ι F H S.length (fgo tg g (items.drop i) sl S),
    ⟨items.length, rfl, Nat.zero_le _, ι1, F1, S1, sl, Same.refl _, hz, hs.stp s1, r1, h1⟩, ?_⟩
  rintro i m σ H ⟨rfl, hi, ι, F, S, sl, ff, hz, hs, rel, af⟩
  by_cases hlt : i < items.length
  · refine .inr ⟨hJ.go i F H hlt ff rel.sub, fun σ' H' => ∃ m', m' < items.length - i ∧ m' = items.length - (i + 1) ∧ i + 1 ≤ items.length ∧ ∃ ι F S sl, Same F1 F ∧ sl.length ≤ σ'.length ∧ SlR K ι F S.length σ' sl ∧ Rel K ι F H' S ∧ AftS K mg W D ι F H' S.length (fgo tg g (items.drop (i + 1)) sl S), fun _ _ h => h, fun x H2 hy => ?_⟩
    obtain ⟨d, F2, ed, g2, dx⟩ := hJ.yld i F H x H2 hlt ff rel.sub hy
    have edr : items.drop i = d :: items.drop (i + 1) := by
      rw [List.drop_eq_getElem_cons hlt]
      rw [List.getElem?_eq_getElem hlt] at ed
      rw [Option.some.inj ed]
    rw [edr] at af
    unfold fgo at af
    cases es : setT tg d sl with
    | none => rw [es] at af; exact af.elim
    | some sl1 =>
      rw [es] at af
      dsimp only at af
      have st2 : Stp ι F H S.length ι F2 H2 S.length := g2.stp
      refine Tg.ok es dx g2.sub (hs.stp st2) hz fun σ2 h2 l2 l3 _ => ⟨ι, F2, S, sl1, by rw [l2, l3]; exact hz, h2, rel.grow g2, ?_⟩
      have nxt : ∀ {sl2 S2}, AftS K mg W D ι F H S.length (fgo tg g (items.drop (i + 1)) sl2 S2) → AtS K ι F2 H2 S.length sl2 S2 (fun σ' H' => ∃ m', m' < items.length - i ∧ m' = items.length - (i + 1) ∧ i + 1 ≤ items.length ∧ ∃ ι F S sl, Same F1 F ∧ sl.length ≤ σ'.length ∧ SlR K ι F S.length σ' sl ∧ Rel K ι F H' S ∧ AftS K mg W D ι F H' S.length (fgo tg g (items.drop (i + 1)) sl S)) := by
        intro sl2 S2 h ι' F' H' σ' st' r' z' h'
        exact ⟨items.length - (i + 1), by omega, rfl, hlt, ι', F', S2, sl2, (ff.trans st2.ff).trans st'.ff, z', h', r', AftS.stp h (st2.trans st')⟩
      cases eg : g sl1 S with
      | nx sl2 S2 => rw [eg] at af; exact nxt af
      | ct sl2 S2 => rw [eg] at af; exact nxt af
      | bk sl2 S2 =>
        rw [eg] at af
        exact AftS.stp (r := .nx sl2 S2) af st2
      | rt d S2 =>
        rw [eg] at af
        exact AftS.stp (r := .rt d S2) af st2
      | er e sl2 S2 =>
        rw [eg] at af
        exact AftS.stp (r := .er e sl2 S2) af st2
      | bad => rw [eg] at af; exact af.elim
  · have hie : i = items.length := by omega
    subst hie
    refine .inl ⟨hJ.stop _ F H (Nat.le_refl _) ff rel.sub, ?_⟩
    rw [List.drop_length] at af
    exact af ι F H σ .refl rel hz hs
theorem wh_ok {c : DB} {g : DS} {n : Nat} (q : tS K mg W (whS n c g) D σ H) : tWhile (tB K mg W c) (tS K mg W g) D σ H := by
  refine ⟨fun m σ H => tS K mg W (wgo c g m) D σ H, ⟨n, q⟩, fun m σ H q => ?_⟩
  obtain ⟨ι, F, S, sl, hz, hs, rel, q⟩ := q
  cases m with
  | zero => exact q.elim
  | succ m =>
    refine ⟨ι, F, S, sl, hz, hs, rel, Aft.imp (AftS.bind hz hs q) fun b S1 ι1 F1 H1 ⟨s1, r1, h1⟩ => ?_⟩
    cases b with
    | false => exact iteF ((by simpa using h1 : AftS K mg W D ι1 F1 H1 S1.length (.nx sl S1)) ι1 F1 H1 σ .refl r1 hz (hs.stp s1))
    | true =>
      rw [if_pos rfl] at h1
      refine iteT ⟨fun σ' H' => tS K mg W (wgo c g m) D σ' H', fun σ' H' h => ⟨m, Nat.lt_succ_self m, h⟩, ι1, F1, S1, sl, hz, hs.stp s1, r1, ?_⟩
      have nxt : ∀ {sl2 S2}, AftS K mg W D ι1 F1 H1 S1.length (wgo c g m sl2 S2) → AtS K ι1 F1 H1 S1.length sl2 S2 (fun σ' H' => tS K mg W (wgo c g m) D σ' H') := fun {sl2 S2} h ι' F' H' σ' st' r' z' h' => ⟨ι', F', S2, sl2, z', h', r', AftS.stp h st'⟩
      cases eg : g sl S1 with
      | nx sl2 S2 => rw [eg] at h1; exact nxt h1
      | ct sl2 S2 => rw [eg] at h1; exact nxt h1
      | bk sl2 S2 => rw [eg] at h1; exact h1
      | rt d S2 => rw [eg] at h1; exact h1
      | er e sl2 S2 => rw [eg] at h1; exact h1
      | bad => rw [eg] at h1; exact h1.elim
end
section
variable {X : Cx} {W : WX} {c e iter tg : Expr} {f : DE} {la : DL} {ba : DB} {pos p : Pos} {sts : List Stmt} {g : DS}
theorem s_for {it : IT} {t : Tg} (hp : PassesOwn (model X.prog X.w) X.A X.env X.xe) (hc : X.calm = true) (hi : QI X W tg iter it) (hg : PG X tg (t.g X.K)) (hb : QB X W sts g) (hs : ∀ x, foldedSetIterable iter X.env x = pure x := by intro _; rfl) : QS X W (.For tg iter sts [] pos) (forS it t g) :=
  PS.imp (ps_for hp hc hi hg hb (hs := hs)) fun D σ H q => for_ok q
theorem s_while {n : Nat} (hp : PassesOwn (model X.prog X.w) X.A X.env X.xe) (hc : QT X W c ba) (hb : QB X W sts g) : QS X W (.While c sts [] pos) (whS n ba g) :=
  PS.imp (ps_while hp hc hb) fun D σ H q => wh_ok q
end

/-! ### defs -/
inductive FR where
  | ok (x : PyData)
  | er (e : Exn)
  | bad
abbrev FnP := List PyData → FR
def slots (n : Nat) (xs : List Val) : Sl := xs.map some ++ List.replicate (n - xs.length) none
def endP : RS → FR
  | .nx _ _ => .ok .none
  | .rt d _ => .ok d
  | .er e _ _ => .er e
  | _ => .bad
def runP (n m : Nat) (g : DS) : FnP := fun args => if args.length = m then endP (g (slots n (args.map .d)) []) else .bad
/-- the promise of a def that is a function of data -/
def spP (K : PySem.W.Frag) (mg : Str → Option Value) (n : Nat) (Fn : FnP) : Sp := fun vs H Q E => ∃ (F : Hp) (args : List PyData), vs.length = n ∧ Same F H ∧ DqAll K F vs args ∧ match Fn args with
  | .ok x => ∀ v H' F', Grow F H F' H' → Dq K F' v x → Q v H'
  | .er e => ∀ H' F' cls d, Grow F H F' H' → ErrR K mg F' e cls d H' → E cls d H'
  | .bad => False
/-- a def that has an owned list handed in first -/
inductive FRr where
  | ok (x : PyData) (row : List PyData)
  | bad
abbrev FnR := List PyData → List PyData → FRr
def outR (x : PyData) (S : Sto) : FRr := match S[(0 : Nat)]? with
  | some (.lst xs) => match allD xs with
    | some r => .ok x r
    | none => .bad
  | _ => .bad
def endR : RS → FRr
  | .nx _ S => outR .none S
  | .rt d S => outR d S
  | _ => .bad
def runR (n m : Nat) (g : DS) : FnR := fun args row => if args.length + 1 = m then endR (g (slots n (.loc 0 :: args.map .d)) [.lst (row.map .d)]) else .bad
theorem runP_len {n m : Nat} {g : DS} (args : List PyData) (x : PyData) (h : runP n m g args = .ok x ∨ ∃ e, runP n m g args = .er e) : args.length = m := by
  unfold runP at h
  by_cases c : args.length = m
  · exact c
  · rw [if_neg c] at h
    rcases h with h | ⟨e, h⟩ <;> cases h
theorem runR_len {n m : Nat} {g : DS} (args row : List PyData) (x : PyData) (row' : List PyData) (h : runR n m g args row = .ok x row') : args.length + 1 = m := by
  unfold runR at h
  by_cases c : args.length + 1 = m
  · exact c
  · rw [if_neg c] at h
    cases h
structure GrowB (a : Addr) (F H F' H' : Hp) : Prop where
  ff : Same F F'
  out : ∀ b o, b ≠ a → H b = some o → H' b = some o
  sub : Same F' H'
  fnew : ∀ b o, F' b = some o → F b = some o ∨ H b = none
def spR (K : PySem.W.Frag) (n : Nat) (Fn : FnR) : Sp := fun vs H Q _ => ∃ (F : Hp) (a : Addr) (rs us : List V) (row args : List PyData), vs = .ref a :: us ∧ vs.length = n ∧ Same F H ∧ F a = none ∧ H a = some (.lst rs) ∧ DqAll K F rs row ∧ DqAll K F us args ∧ match Fn args row with
  | .ok x row' => ∀ v H' F' rs', GrowB a F H F' H' → H' a = some (.lst rs') → DqAll K F' rs' row' → Dq K F' v x → Q v H'
  | .bad => False
section
variable {K : PySem.W.Frag} {mg : Str → Option Value} {ι ι' : Nat → Addr} {F F' H H' : Hp} {n : Nat}
theorem slots_ok {vs : List V} {xs : List Val} {N : List Str} (r : RVs K ι F n vs xs) : SlR K ι F n (L2.start N vs) (slots N.length xs) := fun i x e => by
  unfold slots at e
  by_cases hi : i < xs.length
  · rw [List.getElem?_append_left (by simpa using hi)] at e
    simp only [List.getElem?_map, Option.map_eq_some_iff] at e
    obtain ⟨y, e1, e2⟩ := e
    obtain ⟨v, e3, rv⟩ := r.get e1
    cases e2
    refine ⟨v, ?_, rv⟩
    unfold L2.start
    rw [List.getElem?_append_left (by rw [List.length_map, r.length]; exact hi), List.getElem?_map, e3]
    rfl
  · rw [List.getElem?_append_right (by simpa using hi)] at e
    rw [List.getElem?_replicate] at e
    split at e <;> cases e
theorem slots_len {vs : List V} {xs : List Val} {N : List Str} (h : vs.length = xs.length) : (slots N.length xs).length ≤ (L2.start N vs).length := by
  unfold slots L2.start
  simp [h]
theorem Stp.grow0 (st : Stp ι F H 0 ι' F' H' n) (s : Same F' H') : Grow F H F' H' :=
  ⟨st.ff, fun a o h => st.out a o h fun k hk => absurd hk (Nat.not_lt_zero k), s, fun a o h => (st.fnew a o h).elim .inl fun q => q.elim .inr fun ⟨k, hk, _⟩ => absurd hk (Nat.not_lt_zero k)⟩
end
section
variable {P : Program} {w : World} {K : PySem.W.Frag} {mg : Str → Option Value} {base : Heap}
/-- the wish of a def's body -/
abbrev WE0 (E : XK) : WX := fun cls d _ H => E cls d H
theorem fn_okP {x qual : Str} {st : Stmt} {f : Addr} {fd : FuncData} {N ps : List Str} {k : Nat} {g : DS} (F : FunD K x qual (defArgs st) (defBody st) (defScope st) [] [] f fd) (S : FnScope N ps (defScope st))
    (hb : ∀ (cdv : Value) (A : Around) (outer : List Env) (s : Shared) (H : Hp) (E : XK), Room k (A.deeper (envOfC qual (defScope st) s.heap.objs.size f cdv)) →
      QB (cxOf (L2.CX P w) P w K mg base N qual (defScope st) f cdv A outer s H E) (WE0 E) (defBody st) g) :
    FnOk P w K mg base (L2.CX P w) (k + 1) f fd ps (spP K mg ps.length (runP N.length ps.length g)) := by
  refine F.ok S (fun vs H Q E h => ?_) (fun cdv A outer s H vs Q E hr h => ⟨_, hb cdv A outer s H E hr, ?_⟩)
  · obtain ⟨_, _, h, _⟩ := h; exact h
  · obtain ⟨F, args, hl, sub, da, h⟩ := h
    have rv : RVs K (fun _ => 0) F 0 vs (args.map .d) := RVs.of_all da
    refine ⟨fun _ => 0, F, [], _, slots_len (by rw [rv.length]), slots_ok rv, ⟨sub, fun i j hi => absurd hi (Nat.not_lt_zero i), fun k o e => by simp at e⟩, ?_⟩
    unfold runP at h
    rw [if_pos (by rw [← da.length]; exact hl)] at h
    unfold endP at h
    cases eg : g (slots N.length (args.map .d)) [] with
    | nx sl' S' =>
      rw [eg] at h
      exact fun ι' F' H' σ' st r _ _ => h _ H' F' (st.grow0 r.sub) .non
    | rt d S' =>
      rw [eg] at h
      exact fun ι' F' H' v st r dv => h v H' F' (st.grow0 r.sub) dv
    | er e sl' S' =>
      rw [eg] at h
      exact fun ι' F' H' σ' cls d st r _ _ er => h H' F' cls d (st.grow0 r.sub) er
    | bk sl' S' => rw [eg] at h; exact h.elim
    | ct sl' S' => rw [eg] at h; exact h.elim
    | bad => rw [eg] at h; exact h.elim
theorem fn_okR {x qual : Str} {st : Stmt} {f : Addr} {fd : FuncData} {N ps : List Str} {k : Nat} {g : DS} (F : FunD K x qual (defArgs st) (defBody st) (defScope st) [] [] f fd) (S : FnScope N ps (defScope st))
    (hb : ∀ (cdv : Value) (A : Around) (outer : List Env) (s : Shared) (H : Hp) (E : XK), Room k (A.deeper (envOfC qual (defScope st) s.heap.objs.size f cdv)) →
      QB (cxOf (L2.CX P w) P w K mg base N qual (defScope st) f cdv A outer s H E) (WE0 E) (defBody st) g) :
    FnOk P w K mg base (L2.CX P w) (k + 1) f fd ps (spR K ps.length (runR N.length ps.length g)) := by
  refine F.ok S (fun vs H Q E h => ?_) (fun cdv A outer s H vs Q E hr h => ⟨_, hb cdv A outer s H E hr, ?_⟩)
  · obtain ⟨_, _, _, _, _, _, _, h, _⟩ := h; exact h
  · obtain ⟨F, a, rs, us, row, args, rfl, hl, sub, fa, ha, dr, da, h⟩ := h
    have rv : RVs K (fun _ => a) F 1 (.ref a :: us) (.loc 0 :: args.map .d) := .cons ⟨Nat.zero_lt_one, rfl⟩ (RVs.of_all da)
    refine ⟨fun _ => a, F, [.lst (row.map .d)], _, slots_len (by rw [rv.length]), slots_ok rv, ⟨sub, fun i j hi hj _ => by simp at hi hj; omega, fun k o e => ?_⟩, ?_⟩
    · cases k with
      | zero => simp at e; subst e; exact ⟨fa, rs, ha, RVs.of_all dr⟩
      | succ k => simp at e
    · have fin : ∀ (x : PyData) (S' : Sto), (match outR x S' with
          | .ok x row' => ∀ v H' F' rs', GrowB a F H F' H' → H' a = some (.lst rs') → DqAll K F' rs' row' → Dq K F' v x → Q v H'
          | .bad => False) → ∀ ι' F' H' v, Stp (fun _ => a) F H 1 ι' F' H' S'.length → Rel K ι' F' H' S' → Dq K F' v x → Q v H' := by
        intro x S' h ι' F' H' v st r dv
        split at h
        · rename_i x' row' e1
          unfold outR at e1
          split at e1
          · rename_i xs e2
            split at e1
            · rename_i r' e3
              cases e1
              obtain ⟨_, vs', h1, h2⟩ := r.obj 0 _ e2
              rw [st.ag 0 Nat.zero_lt_one] at h1
              refine h v H' F' vs' ⟨st.ff, fun b o hb hh => st.out b o hh fun k hk => Ne.symm hb, r.sub, fun b o hb => ?_⟩ h1 (h2.all e3) dv
              rcases st.fnew b o hb with q | q | ⟨k, hk, q⟩
              · exact .inl q
              · exact .inr q
              · obtain ⟨f0, _⟩ := r.obj 0 _ e2
                rw [st.ag 0 Nat.zero_lt_one] at f0
                have q' : a = b := q
                rw [← q', f0] at hb
                cases hb
            · cases e1
          · cases e1
        · exact h.elim
      unfold runR at h
      rw [if_pos (by rw [← da.length]; exact hl)] at h
      unfold endR at h
      cases eg : g (slots N.length (.loc 0 :: args.map .d)) [.lst (row.map .d)] with
      | nx sl' S' =>
        rw [eg] at h
        exact fun ι' F' H' σ' st r _ _ => fin _ S' h ι' F' H' _ st r .non
      | rt d S' =>
        rw [eg] at h
        exact fun ι' F' H' v st r dv => fin _ S' h ι' F' H' v st r dv
      | bk sl' S' => rw [eg] at h; exact h.elim
      | ct sl' S' => rw [eg] at h; exact h.elim
      | er e sl' S' => rw [eg] at h; exact h.elim
      | bad => rw [eg] at h; exact h.elim
end

/-! ### calls -/
def callP (Fn : FnP) (la : DL) : DE := fun sl S => (la sl S).bind fun xs S1 => match frzL S1 xs with
  | some (ds, S2) => match Fn ds with
    | .ok x => .ok (.d x) S2
    | .er e => .er e S2
    | .bad => .bad
  | none => .bad
def callR (Fn : FnR) (fr : DE) (la : DL) : DE := fun sl S => (fr sl S).bind fun x S1 => (la sl S1).bind fun xs S2 => match frzL S2 xs with
  | some (ds, S3) => match lstAt S3 x with
    | some (k, rs) => match allD rs with
      | some row => match Fn ds row with
        | .ok z row' => .ok (.d z) (S3.set k (.lst (row'.map .d)))
        | .bad => .bad
      | none => .bad
    | none => .bad
  | none => .bad
section
variable {K : PySem.W.Frag} {ι : Nat → Addr} {F F' H H' : Hp} {S : Sto}
theorem own_chg {k : Nat} {xs ys : List Val} {rs' : List V} (rel : Rel K ι F H S) (e : S[k]? = some (.lst xs)) (g : GrowB (ι k) F H F' H') (h' : H' (ι k) = some (.lst rs')) (ru : RVs K ι F' S.length rs' ys) :
    Stp ι F H S.length ι F' H' (S.set k (.lst ys)).length ∧ Rel K ι F' H' (S.set k (.lst ys)) := by
  have hk : k < S.length := (List.getElem?_eq_some_iff.mp e).1
  obtain ⟨f0, vs, h1, _⟩ := rel.obj k _ e
  rw [List.length_set]
  have f0' : F' (ι k) = none := by
    cases q : F' (ι k) with
    | none => rfl
    | some o =>
      rcases g.fnew _ _ q with z | z
      · rw [f0] at z; cases z
      · rw [h1] at z; cases z
  refine ⟨⟨Nat.le_refl _, fun _ _ => rfl, g.ff, fun a o h hn => g.out a o (Ne.symm (hn k hk)) h, fun a o h => ?_, fun _ h1 h2 => absurd (Nat.lt_of_le_of_lt h1 h2) (Nat.lt_irrefl _), fun a o h => (g.fnew a o h).elim .inl fun q => .inr (.inl q)⟩, g.sub, fun i j hi hj => rel.inj i j (by simpa using hi) (by simpa using hj), fun j o ej => ?_⟩
  · by_cases q : a = ι k
    · exact ⟨_, by rw [q]; exact h'⟩
    · exact ⟨o, g.out a o q h⟩
  · rw [List.length_set]
    by_cases q : j = k
    · subst q
      rw [List.getElem?_set_self hk] at ej
      cases ej
      exact ⟨f0', rs', h', ru⟩
    · rw [List.getElem?_set_ne (Ne.symm q)] at ej
      have hj : j < S.length := (List.getElem?_eq_some_iff.mp ej).1
      have := rel.obj j o ej
      have nj : ι j ≠ ι k := fun e => q (rel.inj j k hj hk e)
      cases o with
      | frz x =>
        obtain ⟨ws, g1, g2⟩ := this
        exact ⟨ws, g.ff _ _ g1, DqAll.mono g.ff _ _ g2⟩
      | lst zs =>
        obtain ⟨g0, ws, g1, g2⟩ := this
        refine ⟨?_, ws, g.out _ _ nj g1, g2.mono (Nat.le_refl _) (fun _ _ => rfl) g.ff⟩
        cases q2 : F' (ι j) with
        | none => rfl
        | some u =>
          rcases g.fnew _ _ q2 with z | z
          · rw [g0] at z; cases z
          · rw [g1] at z; cases z
end
section
variable {X : Cx} {W : WX} {e : Expr} {es : List Expr} {fr : DE} {la : DL} {pos p : Pos} {k : Nat} {f : Addr} {fd : FuncData} {ps : List Str} {x : Str}
theorem callP_ok {K : PySem.W.Frag} {mg : Str → Option Value} {W : WX} {Fn : FnP} {n : Nat} {σ : CxSt} {H : Hp} {Q : VK} (hn : ∀ args x, (Fn args = .ok x ∨ ∃ e, Fn args = .er e) → args.length = n) (h : tE K mg W (callP Fn la) σ H Q) :
    tL K mg W la σ H fun us H1 => spP K mg n Fn (us ++ []) H1 Q (WE W σ) := by
  obtain ⟨ι, F, S, sl, hz, hs, rel, q⟩ := h
  refine ⟨ι, F, S, sl, hz, hs, rel, Aft.imp (Aft.bind q) fun xs S1 ι1 F1 H1 ⟨s1, r1, h1⟩ us rus => ?_⟩
  show spP K mg n Fn (us ++ []) H1 Q (WE W σ)
  rw [List.append_nil]
  split at h1
  · rename_i ds S2 e2
    obtain ⟨F2, g2, d2⟩ := frzL_ok e2 r1 rus
    split at h1
    · rename_i x ex
      refine ⟨F2, ds, by rw [d2.length]; exact hn _ x (.inl ex), g2.2.2.sub, d2, ?_⟩
      rw [ex]
      exact fun v H' F' g dv => h1 ι1 F' H' (g2.2.1.trans g.stp) (g2.2.2.grow g) v dv
    · rename_i x ex
      refine ⟨F2, ds, by rw [d2.length]; exact hn _ .none (.inr ⟨_, ex⟩), g2.2.2.sub, d2, ?_⟩
      rw [ex]
      exact fun H' F' cls d g er => h1 ι1 F' H' cls d (g2.2.1.trans g.stp) (g2.2.2.grow g) er
    · exact h1.elim
  · exact h1.elim
theorem q_callP {Fn : FnP} (G : FnOk X.prog X.w X.K X.mg X.base (L2.CX X.prog X.w) k f fd ps (spP X.K X.mg ps.length Fn)) (hr : Room k X.A) (hg : Gl X x) (hm : X.mg x = some (.ref f)) (hk : PySem.W.keepIn X.K (.ref f) = true) (hb : Binds X.K fd ps [])
    (tk : Takes X W) (hn : ∀ args x, (Fn args = .ok x ∨ ∃ e, Fn args = .er e) → args.length = ps.length) (ha : QA X W (e :: es) la) (hdb : (x == ("__debug__" : Str)) = false := by decide) (he : starEach (e :: es) X.env = (false, eval e X.env) :: starEach es X.env := by rfl) (hpl : (backTo pos (starEach es X.env)).any (·.1) = false := by rfl) :
    QE X W (.Call (.Name x p) (e :: es) [] pos) (callP Fn la) :=
  PE.imp (pe_callSD G hr hg hm hk hb .nil (fun σ => passAt tk σ) ha hdb he hpl) fun σ H Q q => callP_ok hn q
theorem callR_ok {K : PySem.W.Frag} {mg : Str → Option Value} {W : WX} {Fn : FnR} {n : Nat} {σ : CxSt} {H : Hp} {Q : VK} (hn : ∀ args row x row', Fn args row = .ok x row' → args.length + 1 = n) (h : tE K mg W (callR Fn fr la) σ H Q) :
    tL K mg W (consL fr la) σ H fun us H1 => spR K n Fn (us ++ []) H1 Q (WE W σ) := by
  obtain ⟨ι, F, S, sl, hz, hs, rel, q⟩ := h
  have q2 : Aft K mg W σ ι F H S.length (((fr sl S).bind fun x S1 => (la sl S1).bind fun xs S2 => .ok (x :: xs) S2).bind fun ys S2 => match ys with
    | x :: xs => (match frzL S2 xs with
      | some (ds, S3) => match lstAt S3 x with
        | some (k, rs) => match allD rs with
          | some row => match Fn ds row with
            | .ok z row' => R.ok (.d z) (S3.set k (.lst (row'.map .d)))
            | .bad => .bad
          | none => .bad
        | none => .bad
      | none => .bad)
    | [] => .bad) (fun x S' ι' F' H' => ∀ u, RV K ι' F' S'.length u x → Q u H') := by
    unfold callR at q
    cases e1 : fr sl S with
    | ok x S1 =>
      rw [e1] at q
      simp only [R.bind] at q ⊢
      cases e2 : la sl S1 with
      | ok xs S2 => rw [e2] at q; exact q
      | er x S2 => rw [e2] at q; exact q
      | bad => rw [e2] at q; exact q
    | er x S1 => rw [e1] at q; exact q
    | bad => rw [e1] at q; exact q
  refine ⟨ι, F, S, sl, hz, hs, rel, Aft.imp (Aft.bind q2) fun ys S1 ι1 F1 H1 ⟨s1, r1, h1⟩ us rus => ?_⟩
  show spR K n Fn (us ++ []) H1 Q (WE W σ)
  rw [List.append_nil]
  cases rus with
  | nil => exact h1.elim
  | @cons v x vs xs rv rvs =>
    dsimp only at h1
    split at h1
    · rename_i ds S3 e2
      obtain ⟨F2, g2, d2⟩ := frzL_ok e2 r1 rvs
      split at h1
      · rename_i k0 rs e3
        obtain ⟨rfl, e3'⟩ := lstAt_eq e3
        split at h1
        · rename_i row e4
          split at h1
          · rename_i z row' e5
            obtain ⟨f0, rs0, h0, hrs⟩ := g2.2.2.obj _ _ e3'
            refine ⟨F2, ι1 k0, rs0, vs, row, ds, by rw [rv.2], ?_, g2.2.2.sub, f0, h0, hrs.all e4, d2, ?_⟩
            · show vs.length + 1 = n
              rw [d2.length]
              exact hn _ _ _ _ e5
            · rw [e5]
              intro v2 H' F' rs' g h' dr dv
              obtain ⟨st, r'⟩ := own_chg (ys := row'.map .d) g2.2.2 e3' g h' (RVs.of_all dr)
              exact h1 ι1 F' H' (g2.2.1.trans st) r' v2 dv
          · exact h1.elim
        · exact h1.elim
      · exact h1.elim
    · exact h1.elim
theorem q_callR {Fn : FnR} (G : FnOk X.prog X.w X.K X.mg X.base (L2.CX X.prog X.w) k f fd ps (spR X.K ps.length Fn)) (hr : Room k X.A) (hg : Gl X x) (hm : X.mg x = some (.ref f)) (hk : PySem.W.keepIn X.K (.ref f) = true) (hb : Binds X.K fd ps [])
    (tk : Takes X W) (hn : ∀ args row x row', Fn args row = .ok x row' → args.length + 1 = ps.length) (h0 : QE X W e fr) (ha : QA X W es la) (hdb : (x == ("__debug__" : Str)) = false := by decide) (he : starEach (e :: es) X.env = (false, eval e X.env) :: starEach es X.env := by rfl) (hpl : (backTo pos (starEach es X.env)).any (·.1) = false := by rfl) :
    QE X W (.Call (.Name x p) (e :: es) [] pos) (callR Fn fr la) :=
  PE.imp (pe_callSD G hr hg hm hk hb .nil (fun σ => passAt tk σ) (a_cons h0 ha he) hdb he hpl) fun σ H Q q => callR_ok hn q

/-! ### raise X() -/
theorem pmk_own0 {C : Addr} {bmB : List Value} {B newId initId : String} (F : ExcBaseFacts B newId initId bmB) (q : PySem.W.excIn X.K C bmB newId = true) (gC : X.mg x = some (.ref C))
    (kC : PySem.W.keepIn X.K (.ref C) = true) (r : Raises X (.ref C)) (hg : Gl X x) (hdb : (x == ("__debug__" : Str)) = false := by decide) :
    PMk X (.Call (.Name x p) [] [] pos) (fun σ H Q => Q (.ref C) none H) := by
  intro pins s σ H Q I h
  refine wpAny_Call_Name_kw (ld_glob I hg gC ?_ hdb)
  refine PySem.W.callWith_K0 I.kIn kC ?_
  show wpAny _ _ (call (.ref C) []) _ _ _
  obtain ⟨bm, N, nm, qn, bs, hdct, sn, sub, ab, col, dd, k0, k1, k2, k3, k5, mN, hC, hN, hni, T⟩ := exc_obj I.kIn q
  refine wpAny_call_exc_subT F T hC hN hni (fun h' e hm => ?_) (Nat.zero_le _)
  exact mk_of I hm r h (I.hok.gone hm.new)
def raS (cls : Str) : DS := fun sl S => .er ⟨cls, []⟩ sl S
theorem s_raise0 {C : Addr} {bmB : List Value} {B newId initId : String} (hc : X.calm = true) (tk : Takes X W) (F : ExcBaseFacts B newId initId bmB) (q : PySem.W.excIn X.K C bmB newId = true) (gC : X.mg x = some (.ref C))
    (kC : PySem.W.keepIn X.K (.ref C) = true) (r : Raises X (.ref C)) (hg : Gl X x) (hdb : (x == ("__debug__" : Str)) = false := by decide) : QS X W (.Raise (some (.Call (.Name x p) [] [] pos)) none pos) (raS x) :=
  PS.imp (ps_raise hc tk (pmk_own0 F q gC kC r hg hdb)) fun D σ H ⟨ι, S, S', sl, hz, hs, rel, q⟩ => q ι S H σ _ _ .refl rel hz hs ⟨⟨C, rfl, gC⟩, trivial⟩
end
end DV
set_option Elab.async false
set_option linter.all false
set_option maxRecDepth 100000
namespace DV
open PySem PySem.Spec PyProof.Rows L2

/-! ### a < b < c -/
section
variable {X : Cx} {W : WX} {a b c e : Expr} {fa fb fc : DE} {pos : Pos}
theorem chain_ok {K : PySem.W.Frag} {mg : Str → Option Value} {W : WX} {r r' : R2} {g g' : PyData → PyData → Option PyData} (hr : OpD K r g) (hr' : OpD K r' g') {σ : CxSt} {H : Hp} {Q : VK} (h : tE K mg W (chain g g' fa fb fc) σ H Q) :
    tChain r r' (tE K mg W fa) (tE K mg W fb) (tE K mg W fc) σ H Q := by
  obtain ⟨ι, F, S, sl, hz, hs, rel, q⟩ := h
  refine ⟨ι, F, S, sl, hz, hs, rel, Aft.imp (Aft.bind q) fun x S1 ι1 F1 H1 ⟨s1, r1, h1⟩ u ru => ?_⟩
  refine ⟨ι1, F1, S1, sl, hz, hs.stp s1, r1, Aft.imp h1.bind fun y S2 ι2 F2 H2 ⟨s2, r2, h2⟩ v rv => ?_⟩
  have hs2 := (hs.stp s1).stp s2
  refine two_ok hr r2 (ru.stp s2) rv (Aft.imp h2.bind fun z S3 ι3 F3 H3 ⟨s3, r3, h3⟩ w rw' => ?_)
  split at h3
  · cases rw'
    refine ⟨true, rfl, iteT ⟨ι3, F3, S3, sl, hz, hs2.stp s3, r3, Aft.imp h3.bind fun t S4 ι4 F4 H4 ⟨s4, r4, h4⟩ w4 rw4 => ?_⟩⟩
    exact two_ok hr' r4 ((rv.stp s3).stp s4) rw4 h4
  · cases rw'
    exact ⟨false, rfl, iteF (h3 ι3 F3 H3 .refl r3 _ (.bl _))⟩
  · exact h3.elim
theorem q_chain {op op' : CmpOp} {r r' : R2} {g g' : PyData → PyData → Option PyData} (ho : OpR X (compareOp op) r) (ho' : OpR X (compareOp op') r') (hr : OpD X.K r g) (hr' : OpD X.K r' g') (ha : QE X W a fa) (hb : QE X W b fb) (hc : QE X W c fc)
    (hm : lastMarks [op, op'] [b, c] = false := by with_unfolding_all rfl) : QE X W (.Compare a [op, op'] [b, c] pos) (chain g g' fa fb fc) := PE.imp (pe_chain ho ho' ha hb hc hm) fun σ H Q q => chain_ok hr hr' q
theorem t_chain {op op' : CmpOp} {r r' : R2} {g g' : PyData → PyData → Option PyData} (ho : OpR X (compareOp op) r) (ho' : OpR X (compareOp op') r') (hr : OpD X.K r g) (hr' : OpD X.K r' g') (ha : QE X W a fa) (hb : QE X W b fb) (hc : QE X W c fc)
    (hm : lastMarks [op, op'] [b, c] = false := by with_unfolding_all rfl) : QT X W (.Compare a [op, op'] [b, c] pos) (asB (chain g g' fa fb fc)) := PT.imp (pt_chain ho ho' ha hb hc hm) fun σ H Q q => chain_ok hr hr' (asB_ok q)
end

/-! ### further new lists: list(x), xs * n -/
def lstF (f : DE) : DF := fun sl S => (f sl S).bind fun x S1 => match dat S1 x with
  | some (.list ds) => .ok (ds.map .d) S1
  | some (.tuple ds) => .ok (ds.map .d) S1
  | _ => .bad
def repF (fa fb : DE) : DF := fun sl S => (fa sl S).bind fun x S1 => (fb sl S1).bind fun y S2 => match dat S2 x, y with
  | some (.list ds), .d (.int k) => if decide (-(2 ^ 63) ≤ k) && decide (k < 2 ^ 63) && decide (ds.length * k.toNat ≤ sizeLine) then .ok ((List.replicate k.toNat ds).flatten.map .d) S2 else .bad
  | _, _ => .bad
def rgF (it : IT) : DF := fun sl S => (it sl S).bind fun ds S1 => if ds.length ≤ 10000000 then .ok (ds.map .d) S1 else .bad
section
variable {X : Cx} {W : WX} {a b c e : Expr} {es : List Expr} {fa fb fc f : DE} {la : DL} {pos p : Pos}
theorem f_list (h : PE X e (tCB (fun xs H Q => ∃ p ys, xs = [.ref p] ∧ (SqL X.K H p ys ∨ SqT X.K H p ys) ∧ ∀ l, H l = none → Q (.ref l) (upd H l (.lst ys))) (tCons (tE X.K X.mg W f) tNil))) : QF X W e (lstF f) := by
  refine PE.imp h fun σ H Q ⟨ι, F, S, sl, hz, hs, rel, q⟩ => ?_
  refine ⟨ι, F, S, sl, hz, hs, rel, Aft.imp (Aft.bind q) fun x S1 ι1 F1 H1 ⟨s1, r1, h1⟩ u ru => ?_⟩
  split at h1
  · rename_i ds ed
    obtain ⟨a, vs, rfl, q1, d1⟩ := (ru.dat r1 ed).list r1.sub
    exact ⟨a, vs, rfl, .inl (SqL.of q1), fun l hl => h1 ι1 F1 H1 .refl r1 l vs hl (RVs.of_all d1)⟩
  · rename_i ds ed
    obtain ⟨a, vs, rfl, q1, d1⟩ := (ru.dat r1 ed).tuple r1.sub
    exact ⟨a, vs, rfl, .inr q1, fun l hl => h1 ι1 F1 H1 .refl r1 l vs hl (RVs.of_all d1)⟩
  · exact h1.elim
theorem f_rep (ha : QE X W a fa) (hb : QE X W b fb) : QF X W (.BinOp a .Mult b pos) (repF fa fb) := by
  refine PE.imp (pe_op op_rep ha hb) fun σ H Q ⟨ι, F, S, sl, hz, hs, rel, q⟩ => ?_
  refine ⟨ι, F, S, sl, hz, hs, rel, Aft.imp (Aft.bind q) fun x S1 ι1 F1 H1 ⟨s1, r1, h1⟩ u ru => ?_⟩
  refine ⟨ι1, F1, S1, sl, hz, hs.stp s1, r1, Aft.imp h1.bind fun y S2 ι2 F2 H2 ⟨s2, r2, h2⟩ v rv => ?_⟩
  split at h2
  · rename_i ds k ed _
    split at h2
    · rename_i c
      simp only [Bool.and_eq_true, decide_eq_true_eq] at c
      obtain ⟨a, vs, rfl, q1, d1⟩ := ((ru.stp s2).dat r2 ed).list r2.sub
      cases rv
      exact ⟨a, _, vs, rfl, rfl, q1, c.1.1, c.1.2, by rw [d1.length]; exact c.2, fun l hl => h2 ι2 F2 H2 .refl r2 l _ hl (RVs.of_all (d1.rep _))⟩
    · exact h2.elim
  · exact h2.elim
theorem rgV_list {K : PySem.W.Frag} {F : Hp} (a b : Int) : DqAll K F (rgV a b) (rangeL a (b - a).toNat) := by
  unfold rgV rangeL
  generalize (b - a).toNat = n
  have : ∀ (l : List Nat), DqAll K F (l.map fun i => V.int (a + (i : Nat))) (l.map fun i => PyData.int (a + (i : Nat))) := by
    intro l
    induction l with
    | nil => exact .nil
    | cons x l ih => exact .cons (.int _) ih
  exact this _
/-- list(range(n)), list(range(a, b)) -/
def rg1 (f : DE) : IT := rng1 (consL f nilL)
theorem f_rg1 (h : PE X e (tLstRg (tRg1 (tE X.K X.mg W f)))) : QF X W e (rgF (rg1 f)) := by
  refine PE.imp h fun σ H Q ⟨ι, F, S, sl, hz, hs, rel, q⟩ => ?_
  have q2 : Aft X.K X.mg W σ ι F H S.length ((f sl S).bind fun x S1 => match x with
    | .d (.int j) => if decide (-(2 ^ 62) ≤ j) && decide (j < 2 ^ 62) then (if (rangeL 0 j.toNat).length ≤ 10000000 then R.ok ((rangeL 0 j.toNat).map .d) S1 else .bad) else .bad
    | _ => .bad) (fun xs S' ι' F' H' => ∀ p us, H' p = none → RVs X.K ι' F' S'.length us xs → Q (.ref p) (upd H' p (.lst us))) := by
    unfold rgF rg1 rng1 consL nilL at q
    cases ef : f sl S with
    | er x S1 => rw [ef] at q; exact q
    | bad => rw [ef] at q; exact q
    | ok x S1 =>
      rw [ef] at q
      simp only [R.bind] at q ⊢
      cases x with
      | loc k => exact q
      | d x =>
        cases x with
        | int j =>
          dsimp only at q ⊢
          by_cases c : (decide (-(2 ^ 62) ≤ j) && decide (j < 2 ^ 62)) = true
          · rw [if_pos c] at q ⊢; exact q
          · rw [if_neg c] at q; exact q.elim
        | _ => exact q
  refine ⟨ι, F, S, sl, hz, hs, rel, Aft.imp (Aft.bind q2) fun x S1 ι1 F1 H1 ⟨s1, r1, h1⟩ u ru => ?_⟩
  split at h1
  · rename_i j0 _
    cases ru
    split at h1
    · rename_i c
      simp only [Bool.and_eq_true, decide_eq_true_eq] at c
      split at h1
      · rename_i c2
        rw [rangeL_length] at c2
        refine ⟨_, rfl, ⟨by decide, by decide, c.1, c.2, ?_⟩, fun p hp => h1 ι1 F1 H1 .refl r1 p _ hp ?_⟩
        · rw [Int.sub_zero]
          exact Nat.le_trans c2 (by decide)
        · have := rgV_list (K := X.K) (F := F1) 0 j0
          rw [Int.sub_zero] at this
          exact RVs.of_all this
      · exact h1.elim
    · exact h1.elim
  · exact h1.elim
end

/-! ### two clauses -/
/-- later: the store's places kept, more known -/
structure Lat (ι0 : Nat → Addr) (F0 : Hp) (n0 : Nat) (ι : Nat → Addr) (F : Hp) (n : Nat) : Prop where
  le : n0 ≤ n
  ag : ∀ k, k < n0 → ι k = ι0 k
  ff : Same F0 F
def lc2Go (tg : Tg) (tt : DB) (it1 : IT) (tg1 : Tg) (tt1 : DB) (el : DE) (vs1 : List Nat) (sl : Sl) : Nat → List PyData → Sto → R (List Val)
  | _, [], S => .ok [] S
  | n, d :: ds, S => match setT tg d sl with
    | none => .bad
    | some sl2 => nb (tt sl2 S) fun b S1 => if b = true then nb (it1 sl2 S1) fun es S2 => (lcGo tg1 tt1 el (wipeS sl2 vs1) n es S2).bind fun xs S3 => (lc2Go tg tt it1 tg1 tt1 el vs1 sl (n + xs.length) ds S3).bind fun ys S4 => .ok (xs ++ ys) S4
      else lc2Go tg tt it1 tg1 tt1 el vs1 sl n ds S1
def lc2F (own vs1 : List Nat) (it : IT) (tg : Tg) (tt : DB) (it1 : IT) (tg1 : Tg) (tt1 : DB) (el : DE) : DF := fun sl S => (it sl S).bind fun ds S1 => lc2Go tg tt it1 tg1 tt1 el vs1 (wipeS sl own) 0 ds S1
section
variable {K : PySem.W.Frag} {mg : Str → Option Value} {W : WX} {σ : CxSt} {D : Addr} {P : List Val → Sto → (Nat → Addr) → Hp → Hp → Prop}
theorem Lat.refl {ι : Nat → Addr} {F : Hp} {n : Nat} : Lat ι F n ι F n := ⟨Nat.le_refl _, fun _ _ => rfl, Same.refl _⟩
theorem Stp.lat {ι ι' : Nat → Addr} {F H F' H' : Hp} {n n' : Nat} (s : Stp ι F H n ι' F' H' n') : Lat ι F n ι' F' n' := ⟨s.le, s.ag, s.ff⟩
theorem Lat.trans {ι0 ι1 ι2 : Nat → Addr} {F0 F1 F2 : Hp} {n0 n1 n2 : Nat} (a : Lat ι0 F0 n0 ι1 F1 n1) (b : Lat ι1 F1 n1 ι2 F2 n2) : Lat ι0 F0 n0 ι2 F2 n2 :=
  ⟨Nat.le_trans a.le b.le, fun k hk => (b.ag k (Nat.lt_of_lt_of_le hk a.le)).trans (a.ag k hk), a.ff.trans b.ff⟩
theorem SlR.lat {ι0 ι : Nat → Addr} {F0 F : Hp} {n0 n : Nat} {sl : Sl} (h : SlR K ι0 F0 n0 σ sl) (l : Lat ι0 F0 n0 ι F n) : SlR K ι F n σ sl := fun i x e =>
  let ⟨v, e1, r⟩ := h i x e; ⟨v, e1, r.mono l.le l.ag l.ff⟩
/-- the list at D under way: m is what is still to be reckoned, from the items so far and the store -/
def Cur (K : PySem.W.Frag) (mg : Str → Option Value) (W : WX) (σ : CxSt) (D : Addr) (P : List Val → Sto → (Nat → Addr) → Hp → Hp → Prop) (ι0 : Nat → Addr) (F0 : Hp) (n0 : Nat) (m : List Val → Sto → R (List Val)) (H : Hp) : Prop :=
  ∃ (ι : Nat → Addr) (F G : Hp) (S : Sto) (acc : List V) (ax : List Val), H = upd G D (.lst acc) ∧ G D = none ∧ Rel K ι F G S ∧ Lat ι0 F0 n0 ι F S.length ∧ RVs K ι F S.length acc ax ∧ Aft K mg W σ ι F G S.length (m ax S) P
theorem Cur.lat {ι0 ι1 : Nat → Addr} {F0 F1 : Hp} {n0 n1 : Nat} {m : List Val → Sto → R (List Val)} {H : Hp} (c : Cur K mg W σ D P ι1 F1 n1 m H) (l : Lat ι0 F0 n0 ι1 F1 n1) : Cur K mg W σ D P ι0 F0 n0 m H :=
  let ⟨ι, F, G, S, acc, ax, e, hG, rel, l1, ra, af⟩ := c
  ⟨ι, F, G, S, acc, ax, e, hG, rel, l.trans l1, ra, af⟩
/-- the turns of one clause, whatever comes behind -/
theorem lc_turn {tg : Tg} {tt : DB} {el : DE} {J : It} {items : List PyData} {M : List Val → Sto → R (List Val)} {ι0 : Nat → Addr} {F0 : Hp} {n0 : Nat} {τ : CxSt} {slw : Sl} {vs : List Nat} (hJ : ItOk K F0 J items) (hx : ∀ i ∈ tg.ix, i ∈ vs)
    (hs : SlR K ι0 F0 n0 (L2.wipe τ vs) slw) (hz : slw.length ≤ (L2.wipe τ vs).length) {i : Nat} {H : Hp} (hi : i ≤ items.length)
    (c : Cur K mg W σ D P ι0 F0 n0 (fun ax S => (lcGo tg tt el slw ax.length (items.drop i) S).bind fun xs S' => M (ax ++ xs) S') H) :
    (J.stop i H ∧ Cur K mg W σ D P ι0 F0 n0 M H) ∨ (J.go i H ∧ i < items.length ∧ ∀ x H', J.yld i H x H' → tg.g K x (L2.wipe τ vs) H' fun σ2 H2 => L2.wipe σ2 vs = L2.wipe τ vs ∧ tB K mg W0 tt σ2 H2 fun b H3 =>
      if b = true then tE K mg W0 el σ2 H3 fun y H4 => ∃ acc, H4 D = some (.lst acc) ∧ acc.length < sizeLine ∧ Cur K mg W σ D P ι0 F0 n0 (fun ax S => (lcGo tg tt el slw ax.length (items.drop (i + 1)) S).bind fun xs S' => M (ax ++ xs) S') (upd H4 D (.lst (acc ++ [y])))
      else Cur K mg W σ D P ι0 F0 n0 (fun ax S => (lcGo tg tt el slw ax.length (items.drop (i + 1)) S).bind fun xs S' => M (ax ++ xs) S') H3) := by
  obtain ⟨ι, F, G, S, acc, ax, rfl, hG, rel, la, ra, af⟩ := c
  have relA : Rel K ι F (upd G D (.lst acc)) S := rel.beside hG
  by_cases hlt : i < items.length
  · refine .inr ⟨hJ.go i F _ hlt la.ff relA.sub, hlt, fun x H2 hy => ?_⟩
    obtain ⟨d, F2, ed, g2, dx⟩ := hJ.yld i F _ x H2 hlt la.ff relA.sub hy
    have edr : items.drop i = d :: items.drop (i + 1) := by
      rw [List.drop_eq_getElem_cons hlt]
      rw [List.getElem?_eq_getElem hlt] at ed
      rw [Option.some.inj ed]
    rw [edr] at af
    unfold lcGo at af
    cases es : setT tg d slw with
    | none => rw [es] at af; exact af.elim
    | some sl' =>
      rw [es] at af
      dsimp only at af
      have rel2 : Rel K ι F2 H2 S := relA.grow g2
      have stA : Stp ι F (upd G D (.lst acc)) S.length ι F2 H2 S.length := g2.stp
      have hs2 : SlR K ι F2 S.length (L2.wipe τ vs) slw := (hs.lat la).stp stA
      refine Tg.ok es dx g2.sub hs2 hz fun σ2 h2 l2 l3 w2 => ⟨by rw [w2 vs hx, wipe_wipe], ?_⟩
      have hz2 : sl'.length ≤ σ2.length := by rw [l2, l3]; exact hz
      have ntt : ∃ b S2, tt sl' S = .ok b S2 ∧ Aft K mg W σ ι F G S.length ((if b = true then nb (el sl' S2) fun x S3 => if ax.length < sizeLine then (lcGo tg tt el slw (ax.length + 1) (items.drop (i + 1)) S3).bind fun xs S4 => .ok (x :: xs) S4 else .bad
          else lcGo tg tt el slw ax.length (items.drop (i + 1)) S2).bind fun xs S' => M (ax ++ xs) S') P := by
        cases e : tt sl' S with
        | ok b S2 => rw [e] at af; exact ⟨b, S2, rfl, af⟩
        | er x S2 => rw [e] at af; exact af.elim
        | bad => rw [e] at af; exact af.elim
      obtain ⟨b, S2, eb, af⟩ := ntt
      refine ⟨ι, F2, S, sl', hz2, h2, rel2, ?_⟩
      rw [eb]
      intro ι3 F3 H3 st3 rel3
      have stB := stA.trans st3
      cases b with
      | false =>
        obtain ⟨stH, hDd, f0, nD⟩ := Stp.hide rel hG stB
        refine iteF ⟨ι3, F3, hid H3 D, S2, acc, ax, (upd_hid_self hDd).symm, hid_self, rel3.hide f0 nD, la.trans stH.lat, ra.stp stH, ?_⟩
        exact Aft.stp (by simpa using af) stH
      | true =>
        refine iteT ?_
        rw [if_pos rfl] at af
        have nel : ∃ y S3, el sl' S2 = .ok y S3 ∧ ax.length < sizeLine ∧ Aft K mg W σ ι F G S.length ((lcGo tg tt el slw (ax.length + 1) (items.drop (i + 1)) S3).bind fun xs S' => M (ax ++ y :: xs) S') P := by
          cases e : el sl' S2 with
          | ok y S3 =>
            rw [e] at af
            simp only [DV.nb] at af
            by_cases hsz : ax.length < sizeLine
            · rw [if_pos hsz] at af
              refine ⟨y, S3, rfl, hsz, ?_⟩
              cases e4 : lcGo tg tt el slw (ax.length + 1) (items.drop (i + 1)) S3 with
              | ok xs S4 => rw [e4] at af; exact af
              | er x S4 => rw [e4] at af; exact af
              | bad => rw [e4] at af; exact af.elim
            · rw [if_neg hsz] at af; exact af.elim
          | er x S3 => rw [e] at af; exact af.elim
          | bad => rw [e] at af; exact af.elim
        obtain ⟨y, S3, ey, hsz, af⟩ := nel
        refine ⟨ι3, F3, S2, sl', hz2, h2.stp st3, rel3, ?_⟩
        rw [ey]
        intro ι4 F4 H4 st4 rel4 v rv
        have stC := stB.trans st4
        obtain ⟨stH, hDd, f0, nD⟩ := Stp.hide rel hG stC
        refine ⟨acc, hDd, by rw [ra.length]; exact hsz, ι4, F4, hid H4 D, S3, acc ++ [v], ax ++ [y], upd_hid.symm, hid_self, rel4.hide f0 nD, la.trans stH.lat, (ra.stp stH).append (.cons rv .nil), ?_⟩
        have e5 : (ax ++ [y]).length = ax.length + 1 := by simp
        refine Aft.stp ?_ stH
        have e6 : ∀ xs, ax ++ [y] ++ xs = ax ++ y :: xs := fun xs => by simp
        simp only [e5, e6]
        exact af
  · have hie : i = items.length := by omega
    subst hie
    refine .inl ⟨hJ.stop _ F _ (Nat.le_refl _) la.ff relA.sub, ι, F, G, S, acc, ax, rfl, hG, rel, la, ra, ?_⟩
    rw [List.drop_length] at af
    simp only [lcGo, R.bind, List.append_nil] at af
    exact af
theorem lc2_ok {own vs1 : List Nat} {tg tg1 : Tg} {tt tt1 : DB} {el : DE} {it it1 : IT} (hx : ∀ i ∈ tg.ix, i ∈ own) (hx1 : ∀ i ∈ tg1.ix, i ∈ vs1) {H : Hp} {Q : VK} (h : tF K mg W (lc2F own vs1 it tg tt it1 tg1 tt1 el) σ H Q) :
    tLc2 (tI K mg W it) (tg.g K) (tB K mg W0 tt) (tI K mg W0 it1) (tg1.g K) (tB K mg W0 tt1) (tE K mg W0 el) own vs1 σ H Q := by
  obtain ⟨ι, F, S, sl, hz, hs, rel, q⟩ := h
  refine ⟨ι, F, S, sl, hz, hs, rel, Aft.imp (Aft.bind q) fun items S1 ι1 F1 H1 ⟨s1, r1, h1⟩ J hJ D hD => ?_⟩
  have hzw : (wipeS sl own).length ≤ (L2.wipe σ own).length := by rw [wipeS_length, wipe_length]; exact hz
  have hsw : SlR K ι1 F1 S1.length (L2.wipe σ own) (wipeS sl own) := (hs.stp s1).wipe own
  let P : List Val → Sto → (Nat → Addr) → Hp → Hp → Prop := fun xs S' ι' F' H' => ∀ p us, H' p = none → RVs K ι' F' S'.length us xs → Q (.ref p) (upd H' p (.lst us))
  let go : Nat → List Val → Sto → R (List Val) := fun i ax S => (lc2Go tg tt it1 tg1 tt1 el vs1 (wipeS sl own) ax.length (items.drop i) S).bind fun xs S' => .ok (ax ++ xs) S'
  refine ⟨fun i m H => m = items.length - i ∧ i ≤ items.length ∧ Cur K mg W σ D P ι1 F1 S1.length (go i) H, ⟨items.length, rfl, Nat.zero_le _, ι1, F1, H1, S1, [], [], rfl, hD, r1, .refl, .nil, ?_⟩, ?_⟩
  · show Aft K mg W σ ι1 F1 H1 S1.length ((lc2Go tg tt it1 tg1 tt1 el vs1 (wipeS sl own) 0 items S1).bind fun xs S' => .ok ([] ++ xs) S') P
    cases e : lc2Go tg tt it1 tg1 tt1 el vs1 (wipeS sl own) 0 items S1 with
    | ok xs S' => rw [e] at h1; exact h1
    | er x S' => rw [e] at h1; exact h1
    | bad => rw [e] at h1; exact h1.elim
  · rintro i m _ ⟨rfl, hi, ι, F, G, S, acc, ax, rfl, hG, rel, la, ra, af⟩
    have relA : Rel K ι F (upd G D (.lst acc)) S := rel.beside hG
    by_cases hlt : i < items.length
    · refine .inr ⟨hJ.go i F _ hlt la.ff relA.sub, fun H => Cur K mg W σ D P ι1 F1 S1.length (go (i + 1)) H, fun H' c => ⟨items.length - (i + 1), by omega, rfl, hlt, c⟩, fun x H2 hy => ?_⟩
      obtain ⟨d, F2, ed, g2, dx⟩ := hJ.yld i F _ x H2 hlt la.ff relA.sub hy
      have edr : items.drop i = d :: items.drop (i + 1) := by
        rw [List.drop_eq_getElem_cons hlt]
        rw [List.getElem?_eq_getElem hlt] at ed
        rw [Option.some.inj ed]
      have af : Aft K mg W σ ι F G S.length ((lc2Go tg tt it1 tg1 tt1 el vs1 (wipeS sl own) ax.length (items.drop i) S).bind fun xs S' => .ok (ax ++ xs) S') P := af
      rw [edr] at af
      unfold lc2Go at af
      cases es : setT tg d (wipeS sl own) with
      | none => rw [es] at af; exact af.elim
      | some sl' =>
        rw [es] at af
        dsimp only at af
        have rel2 : Rel K ι F2 H2 S := relA.grow g2
        have stA : Stp ι F (upd G D (.lst acc)) S.length ι F2 H2 S.length := g2.stp
        have hs2 : SlR K ι F2 S.length (L2.wipe σ own) (wipeS sl own) := (hsw.lat la).stp stA
        refine Tg.ok es dx g2.sub hs2 hzw fun σ2 h2 l2 l3 w2 => ⟨by rw [w2 own hx, wipe_wipe], ?_⟩
        have hz2 : sl'.length ≤ σ2.length := by rw [l2, l3]; exact hzw
        have ntt : ∃ b S2, tt sl' S = .ok b S2 ∧ Aft K mg W σ ι F G S.length ((if b = true then nb (it1 sl' S2) fun es S2 => (lcGo tg1 tt1 el (wipeS sl' vs1) ax.length es S2).bind fun xs S3 => (lc2Go tg tt it1 tg1 tt1 el vs1 (wipeS sl own) (ax.length + xs.length) (items.drop (i + 1)) S3).bind fun ys S4 => .ok (xs ++ ys) S4
            else lc2Go tg tt it1 tg1 tt1 el vs1 (wipeS sl own) ax.length (items.drop (i + 1)) S2).bind fun xs S' => .ok (ax ++ xs) S') P := by
          cases e : tt sl' S with
          | ok b S2 => rw [e] at af; exact ⟨b, S2, rfl, af⟩
          | er x S2 => rw [e] at af; exact af.elim
          | bad => rw [e] at af; exact af.elim
        obtain ⟨b, S2, eb, af⟩ := ntt
        refine ⟨ι, F2, S, sl', hz2, h2, rel2, ?_⟩
        rw [eb]
        intro ι3 F3 H3 st3 rel3
        have stB := stA.trans st3
        cases b with
        | false =>
          obtain ⟨stH, hDd, f0, nD⟩ := Stp.hide rel hG stB
          refine iteF ⟨ι3, F3, hid H3 D, S2, acc, ax, (upd_hid_self hDd).symm, hid_self, rel3.hide f0 nD, la.trans stH.lat, ra.stp stH, ?_⟩
          exact Aft.stp (by simpa using af) stH
        | true =>
          refine iteT ?_
          rw [if_pos rfl] at af
          have nit : ∃ es S3, it1 sl' S2 = .ok es S3 ∧ Aft K mg W σ ι F G S.length ((lcGo tg1 tt1 el (wipeS sl' vs1) ax.length es S3).bind fun xs S' => go (i + 1) (ax ++ xs) S') P := by
            cases e : it1 sl' S2 with
            | ok es S3 =>
              rw [e] at af
              simp only [DV.nb] at af
              refine ⟨es, S3, rfl, ?_⟩
              cases e4 : lcGo tg1 tt1 el (wipeS sl' vs1) ax.length es S3 with
              | ok xs S4 =>
                rw [e4] at af
                show Aft K mg W σ ι F G S.length ((lc2Go tg tt it1 tg1 tt1 el vs1 (wipeS sl own) (ax ++ xs).length (items.drop (i + 1)) S4).bind fun ys S' => .ok ((ax ++ xs) ++ ys) S') P
                rw [List.length_append]
                simp only [R.bind] at af
                cases e5 : lc2Go tg tt it1 tg1 tt1 el vs1 (wipeS sl own) (ax.length + xs.length) (items.drop (i + 1)) S4 with
                | ok ys S5 =>
                  rw [e5] at af
                  simp only [R.bind, List.append_assoc]
                  exact af
                | er x S5 => rw [e5] at af; exact af
                | bad => rw [e5] at af; exact af.elim
              | er x S4 => rw [e4] at af; exact af
              | bad => rw [e4] at af; exact af.elim
            | er x S3 => rw [e] at af; exact af.elim
            | bad => rw [e] at af; exact af.elim
          obtain ⟨es1, S3, ei, af⟩ := nit
          refine ⟨ι3, F3, S2, sl', hz2, h2.stp st3, rel3, ?_⟩
          rw [ei]
          intro ι4 F4 H4 st4 rel4 J1 hJ1
          have stC := stB.trans st4
          obtain ⟨stH, hDd, f0, nD⟩ := Stp.hide rel hG stC
          have lt4 : Lat ι1 F1 S1.length ι4 F4 S3.length := la.trans stH.lat
          have hs4 : SlR K ι4 F4 S3.length (L2.wipe σ2 vs1) (wipeS sl' vs1) := ((h2.stp st3).stp st4).wipe vs1
          have hz4 : (wipeS sl' vs1).length ≤ (L2.wipe σ2 vs1).length := by rw [wipeS_length, wipe_length]; exact hz2
          refine ⟨fun j k H => k = es1.length - j ∧ j ≤ es1.length ∧ Cur K mg W σ D P ι4 F4 S3.length (fun ax S => (lcGo tg1 tt1 el (wipeS sl' vs1) ax.length (es1.drop j) S).bind fun xs S' => go (i + 1) (ax ++ xs) S') H,
            ⟨es1.length, rfl, Nat.zero_le _, ι4, F4, hid H4 D, S3, acc, ax, (upd_hid_self hDd).symm, hid_self, rel4.hide f0 nD, .refl, ra.stp stH, Aft.stp af stH⟩, ?_⟩
          rintro j k H ⟨rfl, hj, c⟩
          rcases lc_turn hJ1 hx1 hs4 hz4 hj c with ⟨hst, c⟩ | ⟨hgo, hjl, turn⟩
          · exact .inl ⟨hst, c.lat lt4⟩
          · exact .inr ⟨hgo, fun H => Cur K mg W σ D P ι4 F4 S3.length (fun ax S => (lcGo tg1 tt1 el (wipeS sl' vs1) ax.length (es1.drop (j + 1)) S).bind fun xs S' => go (i + 1) (ax ++ xs) S') H, fun H' c => ⟨es1.length - (j + 1), by omega, rfl, hjl, c⟩, turn⟩
    · have hie : i = items.length := by omega
      subst hie
      refine .inl ⟨hJ.stop _ F _ (Nat.le_refl _) la.ff relA.sub, ?_⟩
      have af : Aft K mg W σ ι F G S.length ((lc2Go tg tt it1 tg1 tt1 el vs1 (wipeS sl own) ax.length (items.drop items.length) S).bind fun xs S' => .ok (ax ++ xs) S') P := af
      rw [List.drop_length] at af
      simp only [lc2Go, R.bind, List.append_nil] at af
      exact af ι F G .refl rel D acc hG ra
end
section
variable {X : Cx} {W : WX} {pos : Pos}
theorem f_lc2 {elt tg iter tg1 iter1 : Expr} {ifs ifs1 : List Expr} {scope : Scope} {own : List (Str × Nat)} {vs1 : List Nat} {it it1 : IT} {t t1 : Tg} {tt tt1 : DB} {el : DE} (hc : X.calm = true) (hN : X.N.Nodup) (hi : QI X W tg iter it) (ok : BlkOk X.N X.env.scope scope own)
    (hv : ∀ i ∈ vs1, i ∈ own.map (·.2)) (hx : ∀ i ∈ t.ix, i ∈ own.map (·.2)) (hx1 : ∀ i ∈ t1.ix, i ∈ vs1)
    (hg : InBlk X scope fun Y => PG Y tg (t.g X.K)) (ht : InBlk X scope fun Y => QTs Y W0 ifs tt) (hi1 : InBlk X scope fun Y => QI Y W0 tg1 iter1 it1) (hg1 : InBlk X scope fun Y => PG Y tg1 (t1.g X.K)) (ht1 : InBlk X scope fun Y => QTs Y W0 ifs1 tt1)
    (he : InBlk X scope fun Y => QE Y W0 elt el) (hs : ∀ x, foldedSetIterable iter X.env x = pure x := by intro _; rfl) (hs1 : ∀ env x, foldedSetIterable iter1 env x = pure x := by intro _ _; rfl) :
    QF X W (.ListComp elt [⟨tg, iter, ifs, 0⟩, ⟨tg1, iter1, ifs1, 0⟩] scope pos) (lc2F (own.map (·.2)) vs1 it t tt it1 t1 tt1 el) :=
  PE.imp (pe_lc2 (tt := tB X.K X.mg W0 tt) (te := tE X.K X.mg W0 el) (wi1 := tI X.K X.mg W0 it1) (tt1 := tB X.K X.mg W0 tt1) hc hN hi ok hv hg ht hi1 hg1 ht1 he hs hs1) fun σ H Q q => lc2_ok hx hx1 q

/-! ### given to a name on the same line -/
theorem own_imp {K : PySem.W.Frag} {mg : Str → Option Value} {W : WX} {g : DF} {σ : CxSt} {H : Hp} {Q : VK} (q : tE K mg W (ownE g) σ H Q) : tF K mg W g σ H Q := by
  obtain ⟨ι, F, S, sl, hz, hs, rel, q⟩ := q
  refine ⟨ι, F, S, sl, hz, hs, rel, Aft.imp (Aft.bind q) fun xs S1 ι1 F1 H1 ⟨s1, r1, h1⟩ p us hp rus => ?_⟩
  obtain ⟨ι', s', r', at_⟩ := own_new r1 hp rus
  exact h1 ι' _ _ s' r' _ ⟨by simp, by rw [at_]⟩
theorem frz_imp {K : PySem.W.Frag} {mg : Str → Option Value} {W : WX} {g : DF} {σ : CxSt} {H : Hp} {Q : VK} (q : tE K mg W (frzE g) σ H Q) : tF K mg W g σ H Q := by
  obtain ⟨ι, F, S, sl, hz, hs, rel, q⟩ := q
  refine ⟨ι, F, S, sl, hz, hs, rel, Aft.imp (Aft.bind q) fun xs S1 ι1 F1 H1 ⟨s1, r1, h1⟩ p us hp rus => ?_⟩
  split at h1
  · rename_i ds S2 e2
    obtain ⟨F2, g2, d2⟩ := frzL_ok e2 r1 rus
    have g := Grow.new (o := .lst us) g2.2.2.sub hp
    exact h1 ι1 _ _ (g2.2.1.trans g.stp) (g2.2.2.grow g) _ (.lst upd_same (DqAll.mono g.ff _ _ d2))
  · exact h1.elim
/-- either way of keeping a new list -/
inductive Keeps : (DF → DE) → Prop
  | own : Keeps ownE
  | frz : Keeps frzE
theorem Keeps.imp {kp : DF → DE} (k : Keeps kp) {K : PySem.W.Frag} {mg : Str → Option Value} {W : WX} {g : DF} {σ : CxSt} {H : Hp} {Q : VK} (q : tE K mg W (kp g) σ H Q) : tF K mg W g σ H Q := by
  cases k with
  | own => exact own_imp q
  | frz => exact frz_imp q
theorem s_setLc {kp : DF → DE} {i : Nat} {y : Str} {py spos : Pos} {elt tg iter : Expr} {ifs : List Expr} {scope : Scope} {own : List (Str × Nat)} {it : IT} {t : Tg} {tt : DB} {el : DE} (k : Keeps kp) (hc : X.calm = true) (hN : X.N.Nodup) (hy : X.N[i]? = some y) (hyl : X.env.scope.names.lookup y = some .local)
    (hsw : swapsWith (.ListComp elt [⟨tg, iter, ifs, 0⟩] scope pos) (some (.Name y py)) spos.line X.env = pure true) (hi : QI X W tg iter it) (ok : BlkOk X.N X.env.scope scope own) (hx : ∀ i ∈ t.ix, i ∈ own.map (·.2))
    (hg : InBlk X scope fun Y => PG Y tg (t.g X.K)) (ht : InBlk X scope fun Y => QTs Y W0 ifs tt) (he : InBlk X scope fun Y => QE Y W0 elt el) (hs : ∀ x, foldedSetIterable iter X.env x = pure x := by intro _; rfl) :
    QS X W (.Assign [.Name y py] (.ListComp elt [⟨tg, iter, ifs, 0⟩] scope pos) spos) (asgS i (kp (lcF (own.map (·.2)) it t tt el))) :=
  PS.imp (ps_setLc (tt := tB X.K X.mg W0 tt) (te := tE X.K X.mg W0 el) hc hN hy hyl hsw hi ok hg ht he hs) fun D σ H q => lc_ok hx (k.imp (asg_ok q))
theorem s_setLc2 {kp : DF → DE} {i : Nat} {y : Str} {py spos : Pos} {elt tg iter tg1 iter1 : Expr} {ifs ifs1 : List Expr} {scope : Scope} {own : List (Str × Nat)} {vs1 : List Nat} {it it1 : IT} {t t1 : Tg} {tt tt1 : DB} {el : DE} (k : Keeps kp) (hc : X.calm = true) (hN : X.N.Nodup) (hy : X.N[i]? = some y) (hyl : X.env.scope.names.lookup y = some .local)
    (hsw : swapsWith (.ListComp elt [⟨tg, iter, ifs, 0⟩, ⟨tg1, iter1, ifs1, 0⟩] scope pos) (some (.Name y py)) spos.line X.env = pure true) (hi : QI X W tg iter it) (ok : BlkOk X.N X.env.scope scope own)
    (hv : ∀ i ∈ vs1, i ∈ own.map (·.2)) (hx : ∀ i ∈ t.ix, i ∈ own.map (·.2)) (hx1 : ∀ i ∈ t1.ix, i ∈ vs1)
    (hg : InBlk X scope fun Y => PG Y tg (t.g X.K)) (ht : InBlk X scope fun Y => QTs Y W0 ifs tt) (hi1 : InBlk X scope fun Y => QI Y W0 tg1 iter1 it1) (hg1 : InBlk X scope fun Y => PG Y tg1 (t1.g X.K)) (ht1 : InBlk X scope fun Y => QTs Y W0 ifs1 tt1)
    (he : InBlk X scope fun Y => QE Y W0 elt el) (hs : ∀ x, foldedSetIterable iter X.env x = pure x := by intro _; rfl) (hs1 : ∀ env x, foldedSetIterable iter1 env x = pure x := by intro _ _; rfl) :
    QS X W (.Assign [.Name y py] (.ListComp elt [⟨tg, iter, ifs, 0⟩, ⟨tg1, iter1, ifs1, 0⟩] scope pos) spos) (asgS i (kp (lc2F (own.map (·.2)) vs1 it t tt it1 t1 tt1 el))) :=
  PS.imp (ps_setLc2 (tt := tB X.K X.mg W0 tt) (te := tE X.K X.mg W0 el) (wi1 := tI X.K X.mg W0 it1) (tt1 := tB X.K X.mg W0 tt1) hc hN hy hyl hsw hi ok hv hg ht hi1 hg1 ht1 he hs hs1) fun D σ H q => lc2_ok hx hx1 (k.imp (asg_ok q))
end
end DV
set_option Elab.async false
set_option linter.all false
set_option maxRecDepth 100000
namespace DV
open PySem PySem.Spec PyProof.Rows L2
/-- a def of the top that stands under its own name -/
abbrev FnD (K : PySem.W.Frag) (x : Str) (st : Stmt) (f : Addr) (fd : FuncData) : Prop := FunD K x x (defArgs st) (defBody st) (defScope st) [] [] f fd
/-- the script as data -/
def scrD (ns : List Int) : PyData := .dict [(.none, .list (ns.map .int))]
theorem law_sp {K : PySem.W.Frag} {mg : Str → Option Value} {Fn : FnP} {H : Hp} {a : Addr} {ns : List Int} (hS : SqL K H a (ns.map V.int)) (e : Fn [scrD ns] = .ok (.bool true)) :
    spP K mg 1 Fn [.ref a] H (fun v _ => v = .bl true) fun _ _ _ => False := by
  refine ⟨H, [scrD ns], rfl, Same.refl _, .cons (.scr hS (DqAll.of_ints ns)) .nil, ?_⟩
  rw [e]
  intro v H' F' _ dv
  cases dv
  rfl
theorem cx_law {P : Program} {w : World} {H : Hp} {s : Shared} {e : Value} {s' : Shared} (h : L2.CX P w [] H s (fun _ _ _ => False) e s') : False := by
  obtain ⟨_, _, _, _, _, _, _, _, _, _, _, _, z⟩ := h
  exact z
theorem walk_law {l : PySem.W.OpenLaw} {n k : Nat} {q : Program} {loose : List Str} {XP : (Str → Option Value) → Heap → Prop} {YP : World → Heap → Prop} {d : DefRec} {x : Str}
    (hn : l.most = some n) (hn2 : n ≤ sizeLine) (hdf : d.params.defaults = []) (hr : Room k callerA)
    (F : ∀ (w : World) (mg : Str → Option Value) (fa : Addr) (h : Heap), YP w h → h.Ns mainGlobals mg → mg d.name = some (.ref fa) → ∃ (K : PySem.W.Frag) (fd : FuncData) (sp : Sp), K.In h ∧ (∀ (s : Shared) (u : Value), BindsTo s fd ⟨[u], []⟩ [(x, u)]) ∧
        (∀ (H : Hp) (a : Addr) (ns : List Int), ns.length ≤ n → SqL K H a (ns.map V.int) → sp [.ref a] H (fun v _ => v = .bl true) fun _ _ _ => False) ∧
        ∀ base : Heap, K.In base → base.Ns mainGlobals mg → FnOk l.prog w K mg base (L2.CX l.prog w) k fa fd [x] sp) :
    PySem.W.WalkO q loose XP YP l.row.toRowW d [] (fun f vs => PySem.call f vs) := by
  refine Att.attach_call hn hdf fun w s₀ s₁ mg mb fa o pm cd doc a vs ns G Y ho hd hcd hmg hobj hints hlen hg => ?_
  obtain ⟨K, fd, sp, KX, hb, hsp, hF⟩ := F w mg fa _ Y G.T.g hmg
  exact law_call KX G.T.g G.T.b G.T.builtins G.T.nolimit hg hobj hints (Nat.le_trans hlen hn2) hr hF hb (fun H _ hS => hsp H a ns hlen hS) fun H e s' => cx_law
end DV
set_option Elab.async false
set_option linter.all false
set_option maxRecDepth 100000
namespace DV
open PySem PySem.Spec PyProof.Rows L2
/-- a def that may be called by its name -/
inductive CalP (P : Program) (w : World) (K : PySem.W.Frag) (mg : Str → Option Value) (base : Heap) (x : Str) (k : Nat) (ps : List Str) (Fn : FnP) : Prop
  | mk {f : Addr} {fd : FuncData} (ok : FnOk P w K mg base (L2.CX P w) k f fd ps (spP K mg ps.length Fn)) (hm : mg x = some (.ref f)) (kp : PySem.W.keepIn K (.ref f) = true) (bd : Binds K fd ps []) (ln : ∀ args x, (Fn args = .ok x ∨ ∃ e, Fn args = .er e) → args.length = ps.length)
inductive CalR (P : Program) (w : World) (K : PySem.W.Frag) (mg : Str → Option Value) (base : Heap) (x : Str) (k : Nat) (ps : List Str) (Fn : FnR) : Prop
  | mk {f : Addr} {fd : FuncData} (ok : FnOk P w K mg base (L2.CX P w) k f fd ps (spR K ps.length Fn)) (hm : mg x = some (.ref f)) (kp : PySem.W.keepIn K (.ref f) = true) (bd : Binds K fd ps []) (ln : ∀ args row x row', Fn args row = .ok x row' → args.length + 1 = ps.length)
structure ExcC (K : PySem.W.Frag) (mg : Str → Option Value) (x : Str) : Prop where
  ex : ∃ C, mg x = some (.ref C) ∧ PySem.W.excIn K C He.veBase "ValueError.__new__" = true ∧ PySem.W.keepIn K (.ref C) = true ∧ PySem.W.subIn K (.ref C) (.type "BaseException") = some true ∧ PySem.W.typeIn K (.ref C) = some (.type "type")
def IsI (mg : Str → Option Value) (x : Str) (i : Int) : Prop := ∃ t, mg x = some (.int i t)
section
variable {X : Cx} {W : WX} {a b c e : Expr} {es : List Expr} {fa fb fc f fr : DE} {la : DL} {ba : DB} {pos p p2 : Pos} {k : Nat} {x : Str} {ps : List Str}
theorem Room.u65 (hr : Room k X.A) : X.A.units + 65 < cLine := by have := hr.un; omega
theorem v_ (i : Nat) {x : Str} {pos : Pos} (hN : X.N[i]? = some x := by rfl) (hv : Vis X.env.scope x := by first | exact Or.inl rfl | exact Or.inr (Or.inl rfl) | exact Or.inr (Or.inr rfl)) (hd : (x == ("__debug__" : Str)) = false := by decide)
    (hcd : (x == ("__classdict__" : Str)) = false := by decide) : QE X W (.Name x pos) (var i) := q_var (pe_var hN hv hd hcd)
theorem c_int {i : Int} (h : IsI X.mg x i) (hg : Gl X x := by rfl) (hd : (x == ("__debug__" : Str)) = false := by decide) : QE X W (.Name x pos) (cst (.int i)) := by
  obtain ⟨t, h⟩ := h
  exact q_cst (pe_glob hg h (show RelV (.int i) (.int i t) from ⟨t, rfl⟩) hd) fun _ => .int _
theorem q_add (ha : QE X W a fa) (hb : QE X W b fb) : QE X W (.BinOp a .Add b pos) (bin addD fa fb) := q_bin op_addA d_add ha hb
theorem q_sub (ha : QE X W a fa) (hb : QE X W b fb) : QE X W (.BinOp a .Sub b pos) (bin subD fa fb) := q_bin op_sub d_sub ha hb
theorem q_mul (ha : QE X W a fa) (hb : QE X W b fb) : QE X W (.BinOp a .Mult b pos) (bin mulD fa fb) := q_bin op_mulA d_mul ha hb
theorem q_div (ha : QE X W a fa) (hb : QE X W b fb) : QE X W (.BinOp a .FloorDiv b pos) (bin divD fa fb) := q_bin op_fdivW d_div ha hb
theorem q_mod (ha : QE X W a fa) (hb : QE X W b fb) : QE X W (.BinOp a .Mod b pos) (bin modD fa fb) := q_bin op_mod d_mod ha hb
theorem q_pow (ha : QE X W a fa) (hb : QE X W b fb) : QE X W (.BinOp a .Pow b pos) (bin powD fa fb) := q_bin op_pow d_pow ha hb
theorem q_neg (ha : QE X W a fa) : QE X W (.UnaryOp .USub a pos) (un negD fa) := q_un un_neg d_neg ha
def ltI : PyData → PyData → Option PyData := cmpI fun i j => decide (i < j)
def leI : PyData → PyData → Option PyData := cmpI fun i j => decide (i ≤ j)
def gtI : PyData → PyData → Option PyData := cmpI fun i j => decide (j < i)
def geI : PyData → PyData → Option PyData := cmpI fun i j => decide (j ≤ i)
/-- an operator of comparison with its function of data -/
structure CmpR (X : Cx) (op : CmpOp) (g : PyData → PyData → Option PyData) : Prop where
  ex : ∃ r, OpR X (compareOp op) r ∧ OpD X.K r g
theorem cEq (hr : Room k X.A) : CmpR X .Eq eqD := ⟨_, op_eqD hr.units, d_eq⟩
theorem cNe (hr : Room k X.A) : CmpR X .NotEq neD := ⟨_, op_neD hr.units, d_ne⟩
theorem cLt : CmpR X .Lt ltI := ⟨_, op_lt, d_cmp⟩
theorem cLe : CmpR X .LtE leI := ⟨_, op_le, d_cmp⟩
theorem cGt : CmpR X .Gt gtI := ⟨_, op_gt, d_cmp⟩
theorem cGe : CmpR X .GtE geI := ⟨_, op_ge, d_cmp⟩
theorem cIs : CmpR X .Is isN := ⟨_, op_isA, d_is⟩
theorem cIsNot : CmpR X .IsNot notN := ⟨_, op_notA, d_isnot⟩
theorem cIn (hr : Room k X.A) : CmpR X .In inD := ⟨_, op_inA (Room.u65 hr), d_in⟩
theorem cNotIn (hr : Room k X.A) : CmpR X .NotIn notInD := ⟨_, op_notInA (Room.u65 hr), d_notin⟩
theorem q_c {op : CmpOp} {g : PyData → PyData → Option PyData} (r : CmpR X op g) (ha : QE X W a fa) (hb : QE X W b fb) (hm : behindInMarks op b = false := by first | exact nomark _ | rfl) : QE X W (.Compare a [op] [b] pos) (bin g fa fb) :=
  let ⟨_, ho, hr⟩ := r.ex; q_cmp ho hr ha hb hm
theorem t_c {op : CmpOp} {g : PyData → PyData → Option PyData} (r : CmpR X op g) (ha : QE X W a fa) (hb : QE X W b fb) (hm : behindInMarks op b = false := by first | exact nomark _ | rfl) : QT X W (.Compare a [op] [b] pos) (asB (bin g fa fb)) :=
  let ⟨_, ho, hr⟩ := r.ex; t_cmp ho hr ha hb hm
theorem q_cc {op op' : CmpOp} {g g' : PyData → PyData → Option PyData} (r : CmpR X op g) (r' : CmpR X op' g') (ha : QE X W a fa) (hb : QE X W b fb) (hc : QE X W c fc) (hm : lastMarks [op, op'] [b, c] = false := by with_unfolding_all rfl) : QE X W (.Compare a [op, op'] [b, c] pos) (chain g g' fa fb fc) :=
  let ⟨_, ho, hr⟩ := r.ex; let ⟨_, ho', hr'⟩ := r'.ex; q_chain ho ho' hr hr' ha hb hc hm
theorem t_cc {op op' : CmpOp} {g g' : PyData → PyData → Option PyData} (r : CmpR X op g) (r' : CmpR X op' g') (ha : QE X W a fa) (hb : QE X W b fb) (hc : QE X W c fc) (hm : lastMarks [op, op'] [b, c] = false := by with_unfolding_all rfl) : QT X W (.Compare a [op, op'] [b, c] pos) (asB (chain g g' fa fb fc)) :=
  let ⟨_, ho, hr⟩ := r.ex; let ⟨_, ho', hr'⟩ := r'.ex; t_chain ho ho' hr hr' ha hb hc hm
/-- built-ins -/
structure BltR (X : Cx) (f : Value) (g : List PyData → Option PyData) : Prop where
  ex : ∃ r, CallR X f r ∧ CaD X.K r g
theorem bLen : BltR X (.builtin "len") lenD := ⟨_, call_lenA, d_len⟩
theorem bAbs : BltR X (.builtin "abs") absD := ⟨_, call_abs, d_abs⟩
theorem bMax2 (hc : X.calm = true) : BltR X (.builtin "max") maxD2 := ⟨_, call_max2 hc, d_max2⟩
theorem bMin2 (hc : X.calm = true) : BltR X (.builtin "min") minD2 := ⟨_, call_min2 hc, d_min2⟩
theorem bAll (hc : X.calm = true) : BltR X (.builtin "all") allBD := ⟨_, cr_all hc, d_all⟩
theorem bAny (hc : X.calm = true) : BltR X (.builtin "any") anyBD := ⟨_, cr_any hc, d_any⟩
theorem bSum (hc : X.calm = true) : BltR X (.builtin "sum") sumD := ⟨_, cr_sum hc, d_sum⟩
theorem bInt : BltR X (.type "int") intD := ⟨_, call_int1, d_int1⟩
theorem bTuple : BltR X (.type "tuple") tupD := ⟨_, call_tuple_of, d_tuple⟩
theorem bStr : BltR X (.type "str") strD := ⟨_, call_str_int, d_str⟩
theorem q_b {id : String} {g : List PyData → Option PyData} (r : BltR X (.builtin id) g) (hm : X.mg x = none) (hv : bootBuiltins x = some (.builtin id)) (ha : QA X W (e :: es) la) (hg : Gl X x := by rfl) (hn : x ≠ "__name__" := by decide) (hdb : (x == ("__debug__" : Str)) = false := by decide)
    (hs : starEach (e :: es) X.env = (false, eval e X.env) :: starEach es X.env := by rfl) (hpl : (backTo pos (starEach es X.env)).any (·.1) = false := by rfl) : QE X W (.Call (.Name x p) (e :: es) [] pos) (blt g la) :=
  let ⟨_, ho, hr⟩ := r.ex; q_blt hr (pe_callB ho hg hm hv ha hn hdb hs hpl)
theorem q_bt {T : String} {g : List PyData → Option PyData} (r : BltR X (.type T) g) (hm : X.mg x = none) (hv : bootBuiltins x = some (.type T)) (ha : QA X W (e :: es) la) (hg : Gl X x := by rfl) (hn : x ≠ "__name__" := by decide) (hdb : (x == ("__debug__" : Str)) = false := by decide)
    (hs : starEach (e :: es) X.env = (false, eval e X.env) :: starEach es X.env := by rfl) (hpl : (backTo pos (starEach es X.env)).any (·.1) = false := by rfl) : QE X W (.Call (.Name x p) (e :: es) [] pos) (blt g la) :=
  let ⟨_, ho, hr⟩ := r.ex; q_blt hr (pe_callTy ho hg hm hv ha hn hdb hs hpl)
/-- defs -/
theorem q_p {Fn : FnP} {j : Nat} (G : CalP X.prog X.w X.K X.mg X.base x k ps Fn) (hr : Room j X.A) (hj : k ≤ j) (tk : Takes X W) (ha : QA X W (e :: es) la) (hg : Gl X x := by rfl) (hdb : (x == ("__debug__" : Str)) = false := by decide)
    (he : starEach (e :: es) X.env = (false, eval e X.env) :: starEach es X.env := by rfl) (hpl : (backTo pos (starEach es X.env)).any (·.1) = false := by rfl) : QE X W (.Call (.Name x p) (e :: es) [] pos) (callP Fn la) := by
  obtain ⟨ok, hm, kp, bd, ln⟩ := G
  exact q_callP ok (hr.mono hj) hg hm kp bd tk ln ha hdb he hpl
theorem q_r {Fn : FnR} {j : Nat} (G : CalR X.prog X.w X.K X.mg X.base x k ps Fn) (hr : Room j X.A) (hj : k ≤ j) (tk : Takes X W) (h0 : QE X W e fr) (ha : QA X W es la) (hg : Gl X x := by rfl) (hdb : (x == ("__debug__" : Str)) = false := by decide)
    (he : starEach (e :: es) X.env = (false, eval e X.env) :: starEach es X.env := by rfl) (hpl : (backTo pos (starEach es X.env)).any (·.1) = false := by rfl) : QE X W (.Call (.Name x p) (e :: es) [] pos) (callR Fn fr la) := by
  obtain ⟨ok, hm, kp, bd, ln⟩ := G
  exact q_callR ok (hr.mono hj) hg hm kp bd tk ln h0 ha hdb he hpl
/-- raise X() -/
theorem s_ra (hc : X.calm = true) (tk : Takes X W) (E : ExcC X.K X.mg x) (hg : Gl X x := by rfl) (hdb : (x == ("__debug__" : Str)) = false := by decide) : QS X W (.Raise (some (.Call (.Name x p) [] [] p2)) none pos) (raS x) := by
  obtain ⟨C, g, q, kC, h1, h2⟩ := E.ex
  exact PS.imp (ps_raise hc tk (pmk_own0 PySem.F.excBase_ValueError q g kC (raises_own h1 h2) hg hdb)) fun D σ H ⟨ι, S, S', sl, hz, hs, rel, q⟩ => q ι S H σ _ _ .refl rel hz hs ⟨⟨C, rfl, g⟩, trivial⟩
/-- isinstance -/
theorem q_is {c : String} {y : Str} {py : Pos} (hi : X.mg "isinstance" = none) (hm : X.mg y = none) (hv : bootBuiltins y = some (.type c)) (ha : QE X W a fa) (hg : Gl X "isinstance" := by rfl) (hgy : Gl X y := by rfl) (hn : y ≠ "__name__" := by decide) (hdb : (y == ("__debug__" : Str)) = false := by decide)
    (hs : starEach [a, .Name y py] X.env = (false, eval a X.env) :: starEach [.Name y py] X.env := by rfl) (hpl : (backTo pos (starEach [.Name y py] X.env)).any (·.1) = false := by rfl) (hs2 : starEach [Expr.Name y py] X.env = (false, eval (.Name y py) X.env) :: starEach [] X.env := by rfl) :
    QE X W (.Call (.Name "isinstance" p) [a, .Name y py] [] pos) (isiE c fa) :=
  q_isi (r := tE X.K X.mg W fa) (pe_callB call_isi hg hi PyProof.Rows.boot_isinstance (pa_cons ha (pa_cons (pe_bltn hgy hm hv (show RelV (.ty c) (.type c) from rfl) hn hdb) pa_nil hs2) hs) (by decide) (by decide) hs hpl)
theorem q_is2 {c c2 : String} {y y2 : Str} {py py2 pt : Pos} {kt : Nat} (hi : X.mg "isinstance" = none) (hm : X.mg y = none) (hv : bootBuiltins y = some (.type c)) (hm2 : X.mg y2 = none) (hv2 : bootBuiltins y2 = some (.type c2)) (ha : QE X W a fa) (hg : Gl X "isinstance" := by rfl) (hgy : Gl X y := by rfl) (hgy2 : Gl X y2 := by rfl)
    (hn : y ≠ "__name__" := by decide) (hdb : (y == ("__debug__" : Str)) = false := by decide) (hn2 : y2 ≠ "__name__" := by decide) (hdb2 : (y2 == ("__debug__" : Str)) = false := by decide)
    (hs : starEach [a, .Tuple [.Name y py, .Name y2 py2] kt pt] X.env = (false, eval a X.env) :: starEach [.Tuple [.Name y py, .Name y2 py2] kt pt] X.env := by rfl) (hpl : (backTo pos (starEach [.Tuple [.Name y py, .Name y2 py2] kt pt] X.env)).any (·.1) = false := by rfl) (hs2 : starEach [Expr.Tuple [.Name y py, .Name y2 py2] kt pt] X.env = (false, eval (.Tuple [.Name y py, .Name y2 py2] kt pt) X.env) :: starEach [] X.env := by rfl)
    (hs3 : starEach [Expr.Name y py, .Name y2 py2] X.env = (false, eval (.Name y py) X.env) :: starEach [.Name y2 py2] X.env := by rfl) (hs4 : starEach [Expr.Name y2 py2] X.env = (false, eval (.Name y2 py2) X.env) :: starEach [] X.env := by rfl) :
    QE X W (.Call (.Name "isinstance" p) [a, .Tuple [.Name y py, .Name y2 py2] kt pt] [] pos) (un (isiD2 c c2) fa) :=
  q_isi2 (pe_callB call_isiT hg hi PyProof.Rows.boot_isinstance (pa_cons ha (pa_cons (pe_tup (pa_cons (pe_bltn hgy hm hv (show RelV (.ty c) (.type c) from rfl) hn hdb) (pa_cons (pe_bltn hgy2 hm2 hv2 (show RelV (.ty c2) (.type c2) from rfl) hn2 hdb2) pa_nil hs4) hs3)) pa_nil hs2) hs) (by decide) (by decide) hs hpl)
end
end DV
set_option Elab.async false
set_option linter.all false
set_option maxRecDepth 100000
namespace DV
open PySem PySem.Spec PyProof.Rows L2
/-- a def that calls itself more than so often: nothing is promised -/
theorem cal0 {P : Program} {w : World} {K : PySem.W.Frag} {mg : Str → Option Value} {base : Heap} {x : Str} {k : Nat} {ps : List Str} {f : Addr} {fd : FuncData} (kp : PySem.W.keepIn K (.ref f) = true) (hm : mg x = some (.ref f)) (bd : Binds K fd ps []) :
    CalP P w K mg base x k ps (fun _ => .bad) :=
  ⟨(⟨fun vs H Q E h => by
    obtain ⟨F, args, _, _, _, q⟩ := h
    exact q.elim, fun A outer s H args us vs Q E _ _ _ _ h => by
    obtain ⟨F, args, _, _, _, q⟩ := h
    exact q.elim⟩ : FnOk P w K mg base (L2.CX P w) k f fd ps _), hm, kp, bd, fun _ _ h => h.elim (fun e => nomatch e) fun ⟨_, e⟩ => nomatch e⟩

/-! ### sorted -/
open PySem.W in
def rSorted (K : PySem.W.Frag) : List V → Hp → VK → Prop := fun xs H Q => ∃ (p : Addr) (ys : List V) (ds : List PyData) (G : V → PyData → Prop), xs = [.ref p] ∧ (SqL K H p ys ∨ SqT K H p ys) ∧ DpAll K H ys ds ∧ Paired G ys ds ∧ AllAlike ds ∧ Sortable ds ∧
  (∀ d ∈ ds, d.depth ≤ 60) ∧ ∀ l zs, H l = none → Paired G zs (ds.mergeSort (dataLe false id)) → Q (.ref l) (upd H l (.lst zs))
section
variable {X : Cx}
theorem each_val {G : V → PyData → Prop} : ∀ {ys : List V} {ds : List PyData} {us : List Value}, Paired G ys ds → Vals ys us → PySem.W.EachIs (fun u d => ∃ y, RelV y u ∧ G y d) us ds
  | _, _, _, .nil, .nil => .nil
  | _, _, _, .cons a b, .cons c d => .cons ⟨_, c, a⟩ (each_val b d)
theorem val_each {G : V → PyData → Prop} : ∀ {us : List Value} {ds : List PyData}, PySem.W.EachIs (fun u d => ∃ y, RelV y u ∧ G y d) us ds → ∃ ys, Paired G ys ds ∧ Vals ys us
  | _, _, .nil => ⟨[], .nil, .nil⟩
  | _, _, .cons ⟨y, c, a⟩ t => let ⟨ys, b, d⟩ := val_each t; ⟨y :: ys, .cons a b, .cons c d⟩
theorem each_reads {pins : List (Addr × Obj)} {σ : L2.St} {H : Hp} {s : Shared} (I : Inv X pins σ H s) : ∀ {ys : List V} {ds : List PyData} {us : List Value}, DpAll X.K H ys ds → Vals ys us → PySem.W.EachIs (fun u d => ∃ as, Reads s.heap u d as) us ds
  | _, _, _, .nil, .nil => .nil
  | _, _, _, .cons a b, .cons c d => .cons (Dp.reads I _ _ _ a c) (each_reads I b d)
end
section
variable {X : Cx} {pins : List (Addr × Obj)} {σ : L2.St} {H : Hp} {s : Shared} {E : Value → Shared → Prop} {Q : VK}
open PySem.W in
theorem sorted_coll {r : Addr} (hu : X.A.units + 65 < cLine)
    (hc : wpAny (model X.prog X.w) X.A.in1 (collect (.ref r)) (fun its s1 => ∃ H1 ys ds, ∃ G : V → PyData → Prop, Inv X pins σ H1 s1 ∧ Vals ys its ∧ ys.length ≤ sizeLine ∧ DpAll X.K H1 ys ds ∧ Paired G ys ds ∧ AllAlike ds ∧ Sortable ds ∧ (∀ d ∈ ds, d.depth ≤ 60) ∧
      ∀ l zs, H1 l = none → Paired G zs (ds.mergeSort (dataLe false id)) → Q (.ref l) (upd H1 l (.lst zs))) E s) :
    wpAny (model X.prog X.w) X.A (call (.builtin "sorted") [.ref r]) (EP X pins σ Q) E s := by
  refine PySem.Calls.call_function_entry kind_sorted plain_sorted entry_sorted (args_sorted1 _) ?_
  unfold Builtin.«sorted»
  refine wpAny_bind (m := checkCount "sorted" 1 1 _) (wpAny_pure ?_)
  refine wpAny_bind (wpAny_mono hc (fun its s1 h1 => ?_) fun _ _ e => e)
  obtain ⟨H1, ys, ds, G, I, rv, hz, hdp, hG, hal, hso, hdp60, q⟩ := h1
  have hl := rv.length
  refine wpAny_bind (wpAny_newList ?_ (by omega))
  let D := s1.heap.objs.size
  let hp := s1.heap.push (seqObj "list" its.toArray 0)
  have hD : hp.get? D = some (seqObj "list" its.toArray 0) := Heap.get?_push_size _ rfl
  have old : ∀ b o, s1.heap.get? b = some o → b ≠ D ∧ hp.get? b = some o := fun b o e => ⟨Nat.ne_of_lt (Heap.lt_size e), Heap.get?_push_of_some _ e⟩
  have er := each_reads I hdp rv
  have e := each_val hG rv
  have el := e.length
  have er' : EachIs (fun v b => ∃ as, Reads (sortingHeap hp D its) v b as) its ds := er.mono fun _ _ ⟨as, r⟩ => ⟨as, PyProof.Rows.Reads.keeps (fun b o e => sortingHeap_old (old b o e).1 (old b o e).2) r⟩
  have hg : wpAny (model X.prog X.w) X.A.in1 (call (.builtin "list.sort") [.ref D]) (fun _ s' => EP X pins σ Q (.ref D) s') E { s1 with heap := hp } := by
    refine wpAny_call_entry slot_list_sort ⟨_, hD, rfl⟩ entry_list_sort ?_ (args_list_sort _)
    refine list_sort_vals (κ := dataKind (sortingHeap hp D its) ds) (s := { s1 with heap := hp }) hD ?_ (by omega) ⟨.none, rfl, ?_⟩
    · exact SortsAt.data (s := { s1 with heap := sortingHeap hp D its }) er' hal hso fun d hd => by
        have := hdp60 d hd
        show X.A.units + 1 + 1 + d.depth < cLine
        omega
    · have es := sortVals_data (enc := (id : PyData → PyData)) (h' := sortingHeap hp D its) (bs := ds) false e (by simpa using er') (by simpa using hal)
      rw [List.map_id] at es
      generalize hout : sortVals (dataKind (sortingHeap hp D its) ds) false its its = out at es ⊢
      obtain ⟨zs, pz, vz⟩ := val_each es
      obtain ⟨ep, he'⟩ := PyProof.Rows.sortedHeap_at (vs := its) (out := out.toArray) hD
      have kp : ∀ b o, s1.heap.get? b = some o → (sortedHeap hp D its out.toArray).get? b = some o := fun b o h => by
        rw [PyProof.Rows.sortedHeap_old (old b o h).1 (Heap.lt_size (old b o h).2)]; exact (old b o h).2
      have hzl : zs.length ≤ sizeLine := by
        have h1 := vz.length
        have h2 := es.length
        have h3 := List.length_mergeSort (le := dataLe false (id : PyData → PyData)) ds
        omega
      exact ⟨.ref D, _, I.laid (t' := s1.toks) kp (Nat.le_refl _) (show ObjOk X.prog X.w _ _ _ (.lst zs) from ⟨hzl, out, ep, vz, he'⟩), rfl, q _ _ (I.hok.fresh (Nat.le_refl _)) pz⟩
  refine wpAny_bind (wpAny_holding (wpAny_mono hg (fun _ s' x => ?_) fun _ _ e => e))
  exact wpAny_pure ⟨_, rfl, x⟩
end
section
variable {X : Cx}
theorem call_sorted (hu : X.A.units + 65 < cLine) : CallR X (.builtin "sorted") (rSorted X.K) := by
  rintro pins s σ H _ us Q I r ⟨p, ys, ds, G, rfl, seq, data, hG, al, so, deep, q⟩
  obtain ⟨u, rfl, ru⟩ := vals1 r
  obtain rfl : u = Value.ref p := ru
  have from_ : ∀ (T : String), T = "list" ∨ T = "tuple" → ∀ (its : List Value) (o : Obj) (n : Nat), Vals ys its → ys.length ≤ sizeLine → s.heap.get? p = some o → o.cls = .type T → o.data = .seq its.toArray n → wpAny (model X.prog X.w) X.A (call (.builtin "sorted") [.ref p]) (EP X pins σ Q) X.xe s :=
    fun T hT its o n vals small there cls items => sorted_coll hu (wpAny_collect_seq p hT there cls items (fun h' keeps => ⟨H, ys, ds, G, I.kept keeps, vals, small, data, hG, al, so, deep, q⟩) (by rw [List.size_toArray, ← vals.length]; exact small))
  cases seq with
  | inl l =>
    obtain ⟨its, vals, plain, small⟩ := I.list l
    obtain ⟨o, there, cls, n, items⟩ := plain.isList
    exact from_ "list" (.inl rfl) its o n vals small there cls items
  | inr t =>
    obtain ⟨its, vals, ⟨o, there, cls, n, items⟩, small⟩ := I.tuple t
    exact from_ "tuple" (.inr rfl) its o n vals small there cls items
end
end DV
set_option Elab.async false
set_option linter.all false
set_option maxRecDepth 100000
namespace DV
open PySem PySem.Spec PyProof.Rows L2 PySem.W
/-! ### sorting by insertion -/
def insBy {α : Type} (le : α → α → Bool) (x : α) : List α → List α
  | [] => [x]
  | y :: ys => if le x y then x :: y :: ys else y :: insBy le x ys
def isort {α : Type} (le : α → α → Bool) : List α → List α
  | [] => []
  | x :: xs => insBy le x (isort le xs)
section
variable {α : Type} {le : α → α → Bool}
theorem insBy_perm (x : α) : ∀ ys : List α, (insBy le x ys).Perm (x :: ys)
  | [] => .refl _
  | y :: ys => by
    unfold insBy
    split
    · exact .refl _
    · exact ((insBy_perm x ys).cons y).trans (List.Perm.swap x y ys)
theorem isort_perm : ∀ xs : List α, (isort le xs).Perm xs
  | [] => .refl _
  | x :: xs => (insBy_perm x _).trans ((isort_perm xs).cons x)
theorem insBy_sorted (tr : ∀ a b c, le a b = true → le b c = true → le a c = true) (to : ∀ a b, (le a b || le b a) = true) (x : α) : ∀ ys : List α, ys.Pairwise (fun a b => le a b = true) → (insBy le x ys).Pairwise (fun a b => le a b = true)
  | [], _ => List.pairwise_singleton _ _
  | y :: ys, h => by
    have hy := List.pairwise_cons.mp h
    unfold insBy
    split
    · rename_i c
      refine List.pairwise_cons.mpr ⟨fun z hz => ?_, h⟩
      rcases List.mem_cons.mp hz with rfl | hz
      · exact c
      · exact tr _ _ _ c (hy.1 z hz)
    · rename_i c
      refine List.pairwise_cons.mpr ⟨fun z hz => ?_, insBy_sorted tr to x ys hy.2⟩
      rcases List.mem_cons.mp ((insBy_perm x ys).mem_iff.mp hz) with rfl | hz
      · have := to z y
        simpa [c] using this
      · exact hy.1 z hz
theorem isort_sorted (tr : ∀ a b c, le a b = true → le b c = true → le a c = true) (to : ∀ a b, (le a b || le b a) = true) : ∀ xs : List α, (isort le xs).Pairwise (fun a b => le a b = true)
  | [] => .nil
  | x :: xs => insBy_sorted tr to x _ (isort_sorted tr to xs)
theorem isort_merge (tr : ∀ a b c, le a b = true → le b c = true → le a c = true) (to : ∀ a b, (le a b || le b a) = true) {xs : List α} (an : ∀ a ∈ xs, ∀ b ∈ xs, le a b = true → le b a = true → a = b) : xs.mergeSort le = isort le xs := by
  have p1 := List.mergeSort_perm xs le
  have p2 := isort_perm (le := le) xs
  refine List.Perm.eq_of_pairwise (fun a b ha hb h1 h2 => an a (p1.mem_iff.mp ha) b (p2.mem_iff.mp hb) h1 h2) (List.pairwise_mergeSort tr to xs) (isort_sorted tr to xs) (p1.trans p2.symm)
end
/-! alike data that are equal are the same -/
mutual
theorem alike_same : ∀ (x y : PyData), alike x y = true → PyData.eqv x y = true → x = y
  | .none, y, h, e => by cases y <;> simp_all [alike]
  | .bool a, y, h, e => by cases y <;> simp_all [alike, PyData.eqv]
  | .int a, y, h, e => by cases y <;> simp_all [alike, PyData.eqv]
  | .str a, y, h, e => by cases y <;> simp_all [alike, PyData.eqv]
  | .list xs, y, h, e => by
    cases y with
    | list ys =>
      have h' : alikeAll xs ys = true := by simpa [alike] using h
      have e' : PyData.eqvAll xs ys = true := by simpa [PyData.eqv] using e
      rw [alike_sameAll xs ys h' e']
    | _ => simp [alike] at h
  | .tuple xs, y, h, e => by
    cases y with
    | tuple ys =>
      have h' : alikeAll xs ys = true := by simpa [alike] using h
      have e' : PyData.eqvAll xs ys = true := by simpa [PyData.eqv] using e
      rw [alike_sameAll xs ys h' e']
    | _ => simp [alike] at h
  | .dict _, y, h, e => by cases y <;> simp [alike] at h
theorem alike_sameAll : ∀ (xs ys : List PyData), alikeAll xs ys = true → PyData.eqvAll xs ys = true → xs = ys
  | [], ys, h, e => by cases ys <;> simp_all [PyData.eqvAll]
  | x :: xs, ys, h, e => by
    cases ys with
    | nil => simp [PyData.eqvAll] at e
    | cons y ys =>
      simp only [alikeAll, Bool.and_eq_true] at h
      simp only [PyData.eqvAll, Bool.and_eq_true] at e
      rw [alike_same x y h.1 e.1, alike_sameAll xs ys h.2 e.2]
end
theorem le_anti {x y : PyData} (h : alike x y = true) (h1 : dataLe false (id : PyData → PyData) x y = true) (h2 : dataLe false (id : PyData → PyData) y x = true) : x = y := by
  have a1 : PyProof.Rows.lexLt itemOrd (keyToks y) (keyToks x) = false := by
    have : (!PyProof.Rows.lexLt itemOrd (keyToks y) (keyToks x)) = true := h1
    simpa using this
  have a2 : PyProof.Rows.lexLt itemOrd (keyToks x) (keyToks y) = false := by
    have : (!PyProof.Rows.lexLt itemOrd (keyToks x) (keyToks y)) = true := h2
    simpa using this
  have e := PyProof.Rows.lex_total (O := itemOrd) _ _ a2 a1
  cases q : PyData.eqv x y with
  | true => exact alike_same x y h q
  | false =>
    have t := (toks_eqv x y h).2 q [] [Sum.inl 0]
    rw [e, lex_pre, PyProof.Rows.lex_irrefl] at t
    cases t
def leD (x y : PyData) : Bool := !PyProof.Rows.lexLt itemOrd (keyToks y) (keyToks x)
def nnT : PyData → Bool
  | .none => false
  | .tuple _ => false
  | _ => true
def neT : PyData → Bool
  | .tuple (_ :: _) => true
  | _ => false
def sortOk (ds : List PyData) : Bool := (ds.all fun a => ds.all fun b => alike a b) && (ds.all neT || ds.all nnT) && (ds.all fun d => decide (d.depth ≤ 60)) && PyData.canLayAll0 ds
def sortD : List PyData → Option PyData
  | [.list ds] => if sortOk ds then some (.list (isort leD ds)) else none
  | [.tuple ds] => if sortOk ds then some (.list (isort leD ds)) else none
  | _ => none
theorem sortOk_spec {ds : List PyData} (h : sortOk ds = true) : AllAlike ds ∧ Sortable ds ∧ (∀ d ∈ ds, d.depth ≤ 60) ∧ PyData.canLayAll0 ds = true := by
  unfold sortOk at h
  simp only [Bool.and_eq_true, Bool.or_eq_true, List.all_eq_true, decide_eq_true_eq] at h
  obtain ⟨⟨⟨h1, h2⟩, h3⟩, h4⟩ := h
  refine ⟨fun d hd d' hd' => h1 d hd d' hd', ?_, h3, h4⟩
  rcases h2 with h2 | h2
  · left
    intro d hd
    have := h2 d hd
    unfold neT at this
    split at this
    · exact ⟨_, _, rfl⟩
    · cases this
  · right
    intro d hd
    have := h2 d hd
    unfold nnT at this
    constructor
    · rintro rfl; simp at this
    · rintro xs rfl; simp at this
theorem sort_eq {ds : List PyData} (h : sortOk ds = true) : ds.mergeSort (dataLe false id) = isort leD ds :=
  isort_merge (sortLe_total _ _ _).trans (fun a b => by
    have := (sortLe_total (listOrd itemOrd) false (fun b : PyData => keyToks b)).total a b
    rw [Bool.or_eq_true]; exact this) fun a ha b hb h1 h2 => le_anti ((sortOk_spec h).1 a ha b hb) h1 h2
theorem paired_all {K : PySem.W.Frag} {F : Hp} : ∀ {ys : List V} {ds : List PyData}, Paired (Dq K F) ys ds ↔ DqAll K F ys ds
  | [], [] => ⟨fun _ => .nil, fun _ => .nil⟩
  | [], _ :: _ => ⟨(fun h => nomatch h), (fun h => nomatch h)⟩
  | _ :: _, [] => ⟨(fun h => nomatch h), (fun h => nomatch h)⟩
  | _ :: ys, _ :: ds => ⟨fun h => by cases h with | cons a b => exact .cons a (paired_all.mp b), fun h => by cases h with | cons a b => exact .cons a (paired_all.mpr b)⟩
theorem d_sorted {K : PySem.W.Frag} : CaD K (rSorted K) sortD := fun F H us xs z Q s r e h => by
  have main : ∀ (ds : List PyData) (u : V) (a : Addr) (vs : List V), us = [.ref a] → sortOk ds = true → (SqL K H a vs ∨ SqT K H a vs) → DqAll K F vs ds → z = .list (isort leD ds) → rSorted K us H Q := by
    intro ds u a vs e1 ok hq da ez
    obtain ⟨h1, h2, h3, h4⟩ := sortOk_spec ok
    refine ⟨a, vs, ds, Dq K F, e1, hq, DqAll.dp (DqAll.mono s _ _ da) h4, paired_all.mpr da, h1, h2, h3, fun l zs hl pz => ?_⟩
    rw [sort_eq ok] at pz
    have g := Grow.new (o := .lst zs) s hl
    exact h _ _ _ g (by rw [ez]; exact .lst upd_same (DqAll.mono g.ff _ _ (paired_all.mp pz)))
  unfold sortD at e
  split at e
  · split at e
    · cases e
      obtain ⟨u, rfl, ru⟩ := r.one
      obtain ⟨a, vs, rfl, h1, d1⟩ := ru.list s
      exact main _ (.ref a) a vs rfl (by assumption) (.inl (SqL.of h1)) d1 rfl
    · cases e
  · split at e
    · cases e
      obtain ⟨u, rfl, ru⟩ := r.one
      obtain ⟨a, vs, rfl, h1, d1⟩ := ru.tuple s
      exact main _ (.ref a) a vs rfl (by assumption) (.inr h1) d1 rfl
    · cases e
  · cases e
theorem bSorted {X : Cx} {k : Nat} (hr : Room k X.A) (hc : X.calm = true) : BltR X (.builtin "sorted") sortD := ⟨_, call_sorted (Room.u65 hr), d_sorted⟩
example : isort leD [.tuple [.int 3, .int 1], .tuple [.int 2, .int 1]] = [.tuple [.int 2, .int 1], .tuple [.int 3, .int 1]] := by rfl
example : sortOk [.tuple [.int 3, .int 1], .tuple [.int 2, .int 1]] = true := by decide +kernel

/-! ### {a: b, c: d}.get(e), .get(e, f) -/
def get2 (a b c d : Int) (i : Int) : Option PyData := if i = a then some (.int b) else if i = c then some (.int d) else none
def getE1 (a b c d : Int) (fk : DE) : DE := fun sl S => (fk sl S).bind fun y S1 => match y with
  | .d (.int i) => .ok (.d ((get2 a b c d i).getD .none)) S1
  | _ => .bad
def getE2 (a b c d : Int) (fk fd : DE) : DE := fun sl S => (fk sl S).bind fun y S1 => (fd sl S1).bind fun z S2 => match y with
  | .d (.int i) => match get2 a b c d i with
    | some v => .ok (.d v) S2
    | none => .ok z S2
  | _ => .bad
section
variable {X : Cx} {W : WX} {e f : Expr} {fk fd : DE} {pos dpos apos cpos p1 p2 p3 p4 : Pos} {a b c d : Int} {k : Nat}
theorem val2 {a b c d : Int} (hac : a ≠ c) (i : Int) : valV (mergeK [] [((Sum.inl a : Key), V.int b), (.inl c, .int d)]) (.inl i) = if i = a then some (.int b) else if i = c then some (.int d) else none := by
  have e : mergeK [] [((Sum.inl a : Key), V.int b), (.inl c, .int d)] = [((Sum.inl a : Key), V.int b), (.inl c, .int d)] := by
    show putK (putK [] (Sum.inl a) (V.int b)) (Sum.inl c) (V.int d) = _
    have e1 : putK [] (Sum.inl a : Key) (V.int b) = [((Sum.inl a : Key), V.int b)] := rfl
    rw [e1]
    unfold putK
    have : ¬ (Sum.inl a : Key) = Sum.inl c := fun q => hac (Sum.inl.inj q)
    simp [this]
  rw [e]
  by_cases h1 : i = a
  · rw [if_pos h1, h1]; exact valV_pos rfl
  · rw [if_neg h1, valV_neg (fun q => h1 (Sum.inl.inj q).symm)]
    by_cases h2 : i = c
    · rw [if_pos h2, h2]; exact valV_pos rfl
    · rw [if_neg h2, valV_neg (fun q => h2 (Sum.inl.inj q).symm)]; exact valV_nil
theorem disp2_ok {K : PySem.W.Frag} {mg : Str → Option Value} {σ : L2.St} {H : Hp} {Q : VK} {ι : Nat → Addr} {F : Hp} {S : Sto} {sl : Sl} {α : Type} {r : R α} {P : α → Sto → (Nat → Addr) → Hp → Hp → Prop} (hz : sl.length ≤ σ.length) (hs : SlR K ι F S.length σ sl) (rel : Rel K ι F H S)
    (q : Aft K mg W σ ι F H S.length r P) (h : ∀ p F' H', H' p = some (.dK (mergeK [] [((Sum.inl a : Key), V.int b), (.inl c, .int d)])) → SlR K ι F' S.length σ sl → Rel K ι F' H' S → F' p = H' p → Aft K mg W σ ι F' H' S.length r P → Q (.ref p) H') :
    tDisp [(tC (.int a), tC (.int b)), (tC (.int c), tC (.int d))] σ H Q := by
  intro p hp
  refine ⟨upd_same, [(.inl a, .int b), (.inl c, .int d)], rfl, by simp, ?_⟩
  have g := Grow.new (o := .dK (mergeK [] [((Sum.inl a : Key), V.int b), (.inl c, .int d)])) rel.sub hp
  have eu : upd (upd H p (.dK [])) p (.dK (mergeK [] [((Sum.inl a : Key), V.int b), (.inl c, .int d)])) = upd H p (.dK (mergeK [] [((Sum.inl a : Key), V.int b), (.inl c, .int d)])) := by
    funext x
    unfold upd
    split <;> rfl
  show Q (.ref p) (upd (upd H p (.dK [])) p (.dK (mergeK [] [((Sum.inl a : Key), V.int b), (.inl c, .int d)])))
  rw [eu]
  exact h p _ _ upd_same (hs.stp g.stp) (rel.grow g) (by rw [upd_same, upd_same]) (q.stp g.stp)
theorem isd2 {F H F1 H1 : Hp} {p : Addr} {kvs : List (L2.Key × V)} (e : H p = some (.dK kvs)) (eF : F p = H p) (ff : Same F F1) (sub : Same F1 H1) : H1 p = some (.dK kvs) := sub _ _ (ff _ _ (eF.trans e))
theorem q_get1 {j1 j2 j3 j4 : Nat} (hr : Room k X.A) (hac : a ≠ c) (hk : QE X W e fk)
    (m : M1 X (.Dict [some (.Constant (.int a) j1 p1), some (.Constant (.int c) j3 p3)] [.Constant (.int b) j2 p2, .Constant (.int d) j4 p4] dpos) "get" apos e cpos) :
    QE X W (.Call (.Attribute (.Dict [some (.Constant (.int a) j1 p1), some (.Constant (.int c) j3 p3)] [.Constant (.int b) j2 p2, .Constant (.int d) j4 p4] dpos) "get" apos) [e] [] cpos) (getE1 a b c d fk) := by
  refine PE.imp (pe_dget1 (by have := hr.un; omega) (pe_disp (pps_cons pe_int pe_int (pps_cons pe_int pe_int pps_nil)) (by rfl) (by rfl) (by simp) (by simp)) hk m) fun σ H Q h => ?_
  obtain ⟨ι, F, S, sl, hz, hs, rel, q⟩ := h
  refine disp2_ok hz hs rel q fun p F' H' ep hs' rel' eF q' => ⟨p, rfl, .inl ⟨_, .inl ep⟩, ι, F', S, sl, hz, hs', rel', Aft.imp (Aft.bind q') fun y S1 ι1 F1 H1 ⟨s1, r1, h1⟩ u ru => ?_⟩
  split at h1
  · rename_i i _
    have eu : u = .int i := by cases ru; rfl
    subst eu
    refine ⟨_, DGet.k (k := .inl i) (isd2 ep eF s1.ff r1.sub), ?_⟩
    refine h1 ι1 F1 H1 .refl r1 _ ?_
    rw [val2 hac]
    unfold get2
    show Dq X.K F1 _ _
    split
    · exact .int _
    · split
      · exact .int _
      · exact .non
  · exact h1.elim
theorem q_get2 {j1 j2 j3 j4 : Nat} (hr : Room k X.A) (hac : a ≠ c) (hk : QE X W e fk) (hd : QE X W f fd)
    (m : M2 X (.Dict [some (.Constant (.int a) j1 p1), some (.Constant (.int c) j3 p3)] [.Constant (.int b) j2 p2, .Constant (.int d) j4 p4] dpos) "get" apos e f cpos) :
    QE X W (.Call (.Attribute (.Dict [some (.Constant (.int a) j1 p1), some (.Constant (.int c) j3 p3)] [.Constant (.int b) j2 p2, .Constant (.int d) j4 p4] dpos) "get" apos) [e, f] [] cpos) (getE2 a b c d fk fd) := by
  refine PE.imp (pe_dget2 (by have := hr.un; omega) (pe_disp (pps_cons pe_int pe_int (pps_cons pe_int pe_int pps_nil)) (by rfl) (by rfl) (by simp) (by simp)) hk hd m) fun σ H Q h => ?_
  obtain ⟨ι, F, S, sl, hz, hs, rel, q⟩ := h
  refine disp2_ok hz hs rel q fun p F' H' ep hs' rel' eF q' => ⟨p, rfl, .inl ⟨_, .inl ep⟩, ι, F', S, sl, hz, hs', rel', Aft.imp (Aft.bind q') fun y S1 ι1 F1 H1 ⟨s1, r1, h1⟩ u ru => ?_⟩
  refine ⟨ι1, F1, S1, sl, hz, hs'.stp s1, r1, Aft.imp (Aft.bind h1) fun z S2 ι2 F2 H2 ⟨s2, r2, h2⟩ v rv => ?_⟩
  split at h2
  · rename_i i _ _
    have eu : u = .int i := by cases ru; rfl
    subst eu
    refine ⟨_, DGet.k (k := .inl i) (isd2 ep eF (s1.ff.trans s2.ff) r2.sub), ?_⟩
    rw [val2 hac]
    unfold get2 at h2
    split at h2
    · rename_i v' e'
      split at e'
      · rename_i c1
        cases e'
        rw [if_pos c1]
        exact h2 ι2 F2 H2 .refl r2 _ (Dq.int _)
      · rename_i c1
        split at e'
        · rename_i c2
          cases e'
          rw [if_neg c1, if_pos c2]
          exact h2 ι2 F2 H2 .refl r2 _ (Dq.int _)
        · cases e'
    · rename_i e'
      split at e'
      · cases e'
      · rename_i c1
        split at e'
        · cases e'
        · rename_i c2
          rw [if_neg c1, if_neg c2]
          exact h2 ι2 F2 H2 .refl r2 _ rv
  · exact h2.elim
end
end DV
set_option Elab.async false
set_option linter.all false
set_option maxRecDepth 100000
namespace DV
open PySem PySem.Spec PyProof.Rows L2
mutual
def noL : PyData → Bool
  | .list _ => false
  | .dict _ => false
  | .tuple ds => noLs ds
  | _ => true
def noLs : List PyData → Bool
  | [] => true
  | d :: ds => noL d && noLs ds
end
section
variable {K : PySem.W.Frag} {F F2 : Hp}
theorem SqT.noL {a : Addr} {xs : List V} (e : ∀ a o, F a = some o → (∀ vs, o ≠ .lst vs) → F2 a = some o) (h : SqT K F a xs) : SqT K F2 a xs := by
  rcases h with (h | ⟨o, h⟩) | h
  · exact .inl (.inl (e _ _ h fun vs q => nomatch q))
  · exact .inl (.inr ⟨o, e _ _ h fun vs q => nomatch q⟩)
  · exact .inr h
mutual
theorem Dq.noL (e : ∀ a o, F a = some o → (∀ vs, o ≠ .lst vs) → F2 a = some o) {d : PyData} {v : V} (c : DV.noL d = true) (h : Dq K F v d) : Dq K F2 v d := match h with
  | .non => .non
  | .bl _ => .bl _
  | .int _ => .int _
  | .str _ => .str _
  | .lst s q => by simp [DV.noL] at c
  | .scr s q => by simp [DV.noL] at c
  | .tup s q => .tup (SqT.noL e s) (DqAll.noL e (by simpa [DV.noL] using c) q)
  | .dk s l k q => by simp [DV.noL] at c
  | .dt s l k q => by simp [DV.noL] at c
theorem DqAll.noL (e : ∀ a o, F a = some o → (∀ vs, o ≠ .lst vs) → F2 a = some o) {ds : List PyData} {vs : List V} (c : DV.noLs ds = true) (h : DqAll K F vs ds) : DqAll K F2 vs ds := match h with
  | .nil => .nil
  | .cons a b => by
    simp only [DV.noLs, Bool.and_eq_true] at c
    exact .cons (Dq.noL e c.1 a) (DqAll.noL e c.2 b)
end
end
def callQ (Fn : FnP) (la : DL) : DE := fun sl S => (la sl S).bind fun xs S1 => match dats S1 xs with
  | some ds => match Fn ds with
    | .ok x => if noL x then .ok (.d x) S1 else .bad
    | .er e => if e.fs.isEmpty then .er e S1 else .bad
    | .bad => .bad
  | none => .bad
section
variable {K : PySem.W.Frag} {mg : Str → Option Value} {W : WX} {ι : Nat → Addr} {F H F' H' : Hp} {S : Sto} {la : DL}
open Classical in
/-- what a callee may think of as frozen: the lists lent too -/
noncomputable def lent (ι : Nat → Addr) (n : Nat) (F H : Hp) : Hp := fun a => if F a = none then (if ∃ k, k < n ∧ ι k = a then H a else none) else F a
open Classical in
noncomputable def back (ι : Nat → Addr) (n : Nat) (F F' : Hp) : Hp := fun a => if ∃ k, k < n ∧ ι k = a then F a else F' a
theorem lent_ff {n : Nat} : Same F (lent ι n F H) := fun a o h => by
  unfold lent
  rw [if_neg (by rw [h]; simp)]
  exact h
theorem lent_sub {n : Nat} (s : Same F H) : Same (lent ι n F H) H := fun a o h => by
  unfold lent at h
  split at h
  · split at h
    · exact h
    · cases h
  · exact s _ _ h
theorem lent_own {n k : Nat} (hk : k < n) {o : HO} (s : Same F H) (h : H (ι k) = some o) : lent ι n F H (ι k) = some o := by
  unfold lent
  split
  · rw [if_pos ⟨k, hk, rfl⟩]; exact h
  · rename_i c
    cases e : F (ι k) with
    | none => exact absurd e c
    | some o' => rw [← h]; exact (s _ _ e).symm
theorem lent_data (rel : Rel K ι F H S) {v : V} {x : Val} {d : PyData} (r : RV K ι F S.length v x) (e : DV.dat S x = some d) : Dq K (lent ι S.length F H) v d := by
  cases x with
  | d y =>
    simp [DV.dat] at e
    subst e
    exact Dq.mono lent_ff _ _ r
  | loc k =>
    obtain ⟨hk, rfl⟩ := r
    unfold DV.dat at e
    dsimp only at e
    split at e
    · rename_i xs ex
      obtain ⟨ds, e1, rfl⟩ := Option.map_eq_some_iff.mp e
      obtain ⟨f0, vs, h1, rv⟩ := rel.obj k _ ex
      exact .lst (lent_own hk rel.sub h1) (DqAll.mono lent_ff _ _ (rv.all e1))
    · rename_i ds ex
      cases e
      obtain ⟨vs, h1, dd⟩ := rel.obj k _ ex
      exact .lst (lent_ff _ _ h1) (DqAll.mono lent_ff _ _ dd)
    · cases e
theorem lent_datas (rel : Rel K ι F H S) : ∀ {xs : List Val} {ds : List PyData} {us : List V}, dats S xs = some ds → RVs K ι F S.length us xs → DqAll K (lent ι S.length F H) us ds
  | [], ds, us, e, r => by cases r; simp [dats] at e; subst e; exact .nil
  | x :: xs, ds, us, e, r => by
    cases r with
    | cons a b =>
      unfold dats at e
      split at e
      · rename_i d ds' e1 e2
        cases e
        exact .cons (lent_data rel a e1) (lent_datas rel e2 b)
      · cases e
theorem back_grow (rel : Rel K ι F H S) (g : Grow (lent ι S.length F H) H F' H') : Grow F H (back ι S.length F F') H' where
  ff := fun a o h => by
    unfold back
    split
    · exact h
    · exact g.ff _ _ (lent_ff _ _ h)
  hh := g.hh
  sub := fun a o h => by
    unfold back at h
    split at h
    · exact g.hh _ _ (rel.sub _ _ h)
    · exact g.sub _ _ h
  fnew := fun a o h => by
    unfold back at h
    split at h
    · exact .inl h
    · rename_i c
      rcases g.fnew _ _ h with q | q
      · left
        unfold lent at q
        split at q
        · first
            | (rw [if_neg c] at q; cases q)
            | cases q
        · exact q
      · exact .inr q
theorem back_noL (rel : Rel K ι F H S) (g : Grow (lent ι S.length F H) H F' H') {v : V} {x : PyData} (c : noL x = true) (d : Dq K F' v x) : Dq K (back ι S.length F F') v x := by
  refine Dq.noL (fun a o h hn => ?_) c d
  unfold back
  split
  · rename_i q
    obtain ⟨k, hk, rfl⟩ := q
    exfalso
    obtain ⟨o', ho⟩ : ∃ o', S[k]? = some o' := ⟨_, List.getElem?_eq_getElem hk⟩
    have hl : ∃ vs, lent ι S.length F H (ι k) = some (.lst vs) := by
      cases o' with
      | lst xs =>
        obtain ⟨f0, vs, h1, _⟩ := rel.obj k _ ho
        exact ⟨vs, lent_own hk rel.sub h1⟩
      | frz ds =>
        obtain ⟨vs, h1, _⟩ := rel.obj k _ ho
        exact ⟨vs, lent_ff _ _ h1⟩
    obtain ⟨vs, hl⟩ := hl
    have := g.ff _ _ hl
    rw [h] at this
    exact hn vs (Option.some.inj this)
  · exact h
theorem callQ_ok {Fn : FnP} {n : Nat} {σ : CxSt} {H : Hp} {Q : VK} (hn : ∀ args x, (Fn args = .ok x ∨ ∃ e, Fn args = .er e) → args.length = n) (h : tE K mg W (callQ Fn la) σ H Q) :
    tL K mg W la σ H fun us H1 => spP K mg n Fn (us ++ []) H1 Q (WE W σ) := by
  obtain ⟨ι, F, S, sl, hz, hs, rel, q⟩ := h
  refine ⟨ι, F, S, sl, hz, hs, rel, Aft.imp (Aft.bind q) fun xs S1 ι1 F1 H1 ⟨s1, r1, h1⟩ us rus => ?_⟩
  show spP K mg n Fn (us ++ []) H1 Q (WE W σ)
  rw [List.append_nil]
  split at h1
  · rename_i ds e2
    have d2 := lent_datas r1 e2 rus
    split at h1
    · rename_i x ex
      split at h1
      · rename_i c
        refine ⟨lent ι1 S1.length F1 H1, ds, by rw [d2.length]; exact hn _ x (.inl ex), lent_sub r1.sub, d2, ?_⟩
        rw [ex]
        exact fun v H' F' g dv => h1 ι1 _ H' (back_grow r1 g).stp (r1.grow (back_grow r1 g)) v (back_noL r1 g c dv)
      · exact h1.elim
    · rename_i x ex
      split at h1
      · rename_i c
        refine ⟨lent ι1 S1.length F1 H1, ds, by rw [d2.length]; exact hn _ .none (.inr ⟨_, ex⟩), lent_sub r1.sub, d2, ?_⟩
        rw [ex]
        refine fun H' F' cls d g er => h1 ι1 _ H' cls d (back_grow r1 g).stp (r1.grow (back_grow r1 g)) ⟨er.1, ?_⟩
        have e0 : x.fs = [] := by simpa using c
        rw [e0]
        trivial
      · exact h1.elim
    · exact h1.elim
  · exact h1.elim
end
section
variable {X : Cx} {W : WX} {e : Expr} {es : List Expr} {la : DL} {fa fb f : DE} {pos p p2 : Pos} {k : Nat} {x : Str} {ps : List Str} {tg : Expr}
theorem q_l {Fn : FnP} {j : Nat} (G : CalP X.prog X.w X.K X.mg X.base x k ps Fn) (hr : Room j X.A) (hj : k ≤ j) (tk : Takes X W) (ha : QA X W (e :: es) la) (hg : Gl X x := by rfl) (hdb : (x == ("__debug__" : Str)) = false := by decide)
    (he : starEach (e :: es) X.env = (false, eval e X.env) :: starEach es X.env := by rfl) (hpl : (backTo pos (starEach es X.env)).any (·.1) = false := by rfl) : QE X W (.Call (.Name x p) (e :: es) [] pos) (callQ Fn la) := by
  obtain ⟨ok, hm, kp, bd, ln⟩ := G
  exact PE.imp (pe_callSD ok (hr.mono hj) hg hm kp bd .nil (fun σ => passAt tk σ) ha hdb he hpl) fun σ H Q q => callQ_ok ln q
/-! ### a tuple of the module's own top -/
def IsT (K : PySem.W.Frag) (mg : Str → Option Value) (x : Str) (is : List Int) : Prop := ∃ a, mg x = some (.ref a) ∧ ∀ H : Hp, SqT K H a (is.map V.int)
theorem c_tup {is : List Int} (h : IsT X.K X.mg x is) (hg : Gl X x := by rfl) (hd : (x == ("__debug__" : Str)) = false := by decide) : QE X W (.Name x pos) (cst (.tuple (is.map .int))) := by
  obtain ⟨a, h, hq⟩ := h
  exact q_cst (pe_glob hg h (show RelV (.ref a) (.ref a) from rfl) hd) fun F => .tup (hq F) (DqAll.of_ints is)
/-! ### tuple(range(b)) -/
def tupRgE (f : DE) : DE := fun sl S => (f sl S).bind fun x S1 => match x with
  | .d (.int j) => if decide (-(2 ^ 62) ≤ j) && decide (j < 2 ^ 62) then (if (rangeL 0 j.toNat).length ≤ 10000000 then R.ok (.d (.tuple (rangeL 0 j.toNat))) S1 else .bad) else .bad
  | _ => .bad
theorem q_tupRg (h : PE X e (tTupRg (tRg1 (tE X.K X.mg W f)))) : QE X W e (tupRgE f) := by
  refine PE.imp h fun σ H Q ⟨ι, F, S, sl, hz, hs, rel, q⟩ => ?_
  refine ⟨ι, F, S, sl, hz, hs, rel, Aft.imp (Aft.bind q) fun x S1 ι1 F1 H1 ⟨s1, r1, h1⟩ u ru => ?_⟩
  split at h1
  · rename_i j0 _
    cases ru
    split at h1
    · rename_i c
      simp only [Bool.and_eq_true, decide_eq_true_eq] at c
      split at h1
      · rename_i c2
        rw [rangeL_length] at c2
        refine ⟨_, rfl, ⟨by decide, by decide, c.1, c.2, ?_⟩, fun p hp => ?_⟩
        · rw [Int.sub_zero]
          exact Nat.le_trans c2 (by decide)
        · have dd := rgV_list (K := X.K) (F := F1) 0 j0
          rw [Int.sub_zero] at dd
          have g := Grow.new (o := .tup (rgV 0 j0)) r1.sub hp
          exact h1 ι1 _ _ g.stp (r1.grow g) _ (Dq.tup (SqT.of upd_same) (DqAll.mono g.ff _ _ dd))
      · exact h1.elim
    · exact h1.elim
  · exact h1.elim
/-! ### zip of two lists, of two tuples -/
def zipP (ds es : List PyData) : List PyData := List.zipWith (fun x y => .tuple [x, y]) ds es
theorem zip_get {ds es : List PyData} {i : Nat} (h : i < (zipP ds es).length) : ∃ x y, ds[i]? = some x ∧ es[i]? = some y ∧ (zipP ds es)[i]? = some (.tuple [x, y]) := by
  unfold zipP at h ⊢
  rw [List.length_zipWith] at h
  have h1 : i < ds.length := by omega
  have h2 : i < es.length := by omega
  exact ⟨ds[i], es[i], List.getElem?_eq_getElem h1, List.getElem?_eq_getElem h2, by rw [List.getElem?_zipWith, List.getElem?_eq_getElem h1, List.getElem?_eq_getElem h2]⟩
theorem it_zip {K : PySem.W.Frag} {F : Hp} {a b : Addr} {vs us : List V} {ds es : List PyData} (h : F a = some (.lst vs)) (d : DqAll K F vs ds) (h' : F b = some (.lst us)) (d' : DqAll K F us es) : ItOk K F (Itz K a b) (zipP ds es) where
  go := fun i F1 H1 hi f1 f2 => by
    obtain ⟨x, y, e1, e2, _⟩ := zip_get hi
    obtain ⟨v, q1, _⟩ := d.get e1
    obtain ⟨u, q2, _⟩ := d'.get e2
    exact ⟨vs, us, v, u, SqL.of (f2 _ _ (f1 _ _ h)), SqL.of (f2 _ _ (f1 _ _ h')), q1, q2⟩
  yld := fun i F1 H1 w H2 hi f1 f2 ⟨T, v, u, ew, hT, eH, k1, k2⟩ => by
    subst ew eH
    obtain ⟨x, y, e1, e2, e3⟩ := zip_get hi
    obtain ⟨v', q1, dv⟩ := d.get e1
    obtain ⟨u', q2, du⟩ := d'.get e2
    have k1 := k1 vs (SqL.of (f2 _ _ (f1 _ _ h)))
    have k2 := k2 us (SqL.of (f2 _ _ (f1 _ _ h')))
    rw [q1] at k1
    rw [q2] at k2
    have k1 := Option.some.inj k1
    have k2 := Option.some.inj k2
    subst k1 k2
    have g := Grow.new (o := .tup [v', u']) f2 hT
    exact ⟨_, _, e3, g, .tup (SqT.of upd_same) (.cons (Dq.mono g.ff _ _ (Dq.mono f1 _ _ dv)) (.cons (Dq.mono g.ff _ _ (Dq.mono f1 _ _ du)) .nil))⟩
  stop := fun i F1 H1 hi f1 f2 => by
    refine ⟨vs, us, SqL.of (f2 _ _ (f1 _ _ h)), SqL.of (f2 _ _ (f1 _ _ h')), ?_⟩
    unfold zipP at hi
    rw [List.length_zipWith] at hi
    rw [d.length, d'.length]
    omega
theorem it_zipT {K : PySem.W.Frag} {F : Hp} {a b : Addr} {vs us : List V} {ds es : List PyData} (h : SqT K F a vs) (d : DqAll K F vs ds) (h' : SqT K F b us) (d' : DqAll K F us es) : ItOk K F (RZ.ItzT K a b) (zipP ds es) where
  go := fun i F1 H1 hi f1 f2 => by
    obtain ⟨x, y, e1, e2, _⟩ := zip_get hi
    obtain ⟨v, q1, _⟩ := d.get e1
    obtain ⟨u, q2, _⟩ := d'.get e2
    exact ⟨vs, us, v, u, SqT.mono f2 (SqT.mono f1 h), SqT.mono f2 (SqT.mono f1 h'), q1, q2⟩
  yld := fun i F1 H1 w H2 hi f1 f2 ⟨T, v, u, ew, hT, eH, k1, k2⟩ => by
    subst ew eH
    obtain ⟨x, y, e1, e2, e3⟩ := zip_get hi
    obtain ⟨v', q1, dv⟩ := d.get e1
    obtain ⟨u', q2, du⟩ := d'.get e2
    have k1 := k1 vs (SqT.mono f2 (SqT.mono f1 h))
    have k2 := k2 us (SqT.mono f2 (SqT.mono f1 h'))
    rw [q1] at k1
    rw [q2] at k2
    have k1 := Option.some.inj k1
    have k2 := Option.some.inj k2
    subst k1 k2
    have g := Grow.new (o := .tup [v', u']) f2 hT
    exact ⟨_, _, e3, g, .tup (SqT.of upd_same) (.cons (Dq.mono g.ff _ _ (Dq.mono f1 _ _ dv)) (.cons (Dq.mono g.ff _ _ (Dq.mono f1 _ _ du)) .nil))⟩
  stop := fun i F1 H1 hi f1 f2 => by
    refine ⟨vs, us, SqT.mono f2 (SqT.mono f1 h), SqT.mono f2 (SqT.mono f1 h'), ?_⟩
    unfold zipP at hi
    rw [List.length_zipWith] at hi
    rw [d.length, d'.length]
    omega
def zipI (la : DL) : IT := fun sl S => (la sl S).bind fun xs S1 => match frzL S1 xs with
  | some ([.list ds, .list es], S2) => .ok (zipP ds es) S2
  | some ([.tuple ds, .tuple es], S2) => .ok (zipP ds es) S2
  | _ => .bad
theorem i_zip {e2 : Expr} {elts : List Expr} {kk : Nat} {tpos : Pos} (hg : Gl X "zip") (hm : X.mg "zip" = none) (ha : QA X W [e, e2] la)
    (hs : starEach [e, e2] X.env = (false, eval e X.env) :: starEach [e2] X.env := by rfl) (hpl : (backTo pos (starEach [e2] X.env)).any (·.1) = false := by rfl) :
    QI X W (.Tuple elts kk tpos) (.Call (.Name "zip" p) [e, e2] [] pos) (zipI la) := by
  refine PI.imp (RZ.pi_zipA hg hm ha hs hpl) fun σ H Q q => ?_
  obtain ⟨ι, F, S, sl, hz, hs, rel, q⟩ := q
  refine ⟨ι, F, S, sl, hz, hs, rel, Aft.imp (Aft.bind q) fun xs S1 ι1 F1 H1 ⟨s1, r1, h1⟩ us rus => ?_⟩
  split at h1
  · rename_i ds es S2 e2
    obtain ⟨F2, g2, d2⟩ := frzL_ok e2 r1 rus
    cases d2 with
    | cons a b =>
      cases b with
      | cons b c =>
        cases c
        cases a with
        | lst qa da =>
          cases b with
          | lst qb db => exact ⟨_, _, _, _, rfl, .inl ⟨SqL.of (g2.2.2.sub _ _ qa), SqL.of (g2.2.2.sub _ _ qb), h1 ι1 F2 H1 g2.2.1 g2.2.2 _ (it_zip qa da qb db)⟩⟩
  · rename_i ds es S2 e2
    obtain ⟨F2, g2, d2⟩ := frzL_ok e2 r1 rus
    cases d2 with
    | cons a b =>
      cases b with
      | cons b c =>
        cases c
        cases a with
        | tup qa da =>
          cases b with
          | tup qb db => exact ⟨_, _, _, _, rfl, .inr ⟨SqT.mono g2.2.2.sub qa, SqT.mono g2.2.2.sub qb, h1 ι1 F2 H1 g2.2.1 g2.2.2 _ (it_zipT qa da qb db)⟩⟩
  · exact h1.elim
/-! ### try: .. except x: .. -/
def tryS (c : Str) (g h : DS) : DS := fun sl S => match g sl S with
  | .er e sl' S' => if e.cls = c then h sl' S' else .bad
  | r => r
structure ExmC (K : PySem.W.Frag) (mg : Str → Option Value) (x : Str) : Prop where
  ex : ∃ C, mg x = some (.ref C) ∧ PySem.W.exmOne K (.ref C) (.ref C) = some true
theorem s_try {body suite : List Stmt} {b₀ : Stmt} {np pos pos' : Pos} {g h : DS} (E : ExmC X.K X.mg x) (hg : Gl X x) (tk : Takes X W) (hs : X.stack = X.env :: X.outer) (hf : X.env.frame = some X.env.locals)
    (hb : ∀ (W' : WX) (pn : List (Addr × Obj)) (xe : Value → Shared → Prop), Takes (X.tr pn xe) W' → QB (X.tr pn xe) W' body g)
    (hsu : ∀ (a : Addr) (pn : List (Addr × Obj)), QB (X.suite a pn) W (b₀ :: suite) h) (hd : (x == ("__debug__" : Str)) = false := by decide) :
    QS X W (.Try body [.ExceptHandler (some (.Name x np)) none (b₀ :: suite) pos'] [] [] pos) (tryS x g h) := by
  obtain ⟨C, hm, hx⟩ := E.ex
  refine PS.imp (ps_try_only (c := .ref C) (tb := fun W' => tS X.K X.mg W' g) (ts := fun _ _ _ => tS X.K X.mg W h) hs hf ⟨hg, hd, .inl hm⟩ tk (fun W' pn xe tk' _ => hb W' pn xe tk') (fun a oe cls d pn _ _ => hsu a _)) fun D σ H q => ?_
  obtain ⟨ι, F, S, sl, hz, hsl, rel, q⟩ := q
  refine ⟨ι, F, S, sl, hz, hsl, rel, ?_⟩
  unfold tryS at q
  cases eg : g sl S with
  | er e sl' S' =>
    rw [eg] at q
    dsimp only at q
    split at q
    · rename_i ec
      intro ι' F' H' σ' cls dd s' r' z' h' er
      obtain ⟨⟨C', e1, e2⟩, _⟩ := er
      rw [ec, hm] at e2
      cases e2
      subst e1
      exact ⟨true, hx, fun _ a ha => ⟨ι', F', S', sl', z', h', r', AftS.stp (r := h sl' S') q s'⟩, fun hh => nomatch hh⟩
    · exact q.elim
  | nx sl' S' => rw [eg] at q; exact q
  | rt d S' => rw [eg] at q; exact q
  | bk sl' S' => rw [eg] at q; exact q
  | ct sl' S' => rw [eg] at q; exact q
  | bad => rw [eg] at q; exact q.elim
end
/-! ### the head's facts, tuples of ints at the top too -/
def tupsOk (ts : List (Str × List Int)) (K : PySem.W.Frag) : Bool := ts.all fun t => He.tupB K t.1 (t.2.map He.Dv.int)
abbrev AlU : Type := He.AlD × Bool
def obsU (fa : List He.Fa) (fn : List He.DefD) (ts : List (Str × List Int)) (K : PySem.W.Frag) : AlU := (He.obsD fa fn K, tupsOk ts K)
def obsUG (n : Nat) (fa : List He.Fa) (fn : List He.DefD) (ts : List (Str × List Int)) (g : Addr → Option Obj) : AlU := obsU fa fn ts (He.frG g (He.asD g n))
def SaysU (fa : List He.Fa) (fn : List He.DefD) (ts : List (Str × List Int)) (K : PySem.W.Frag) : Prop := obsU fa fn ts K = (He.valD fn, true)
def hookU (n : Nat) (fa : List He.Fa) (fn : List He.DefD) (ts : List (Str × List Int)) : PySem.W.Hook where
  α := AlU
  obs := fun s => obsUG n fa fn ts s.heap.get?
  val := fun _ => (He.valD fn, true)
  says := fun _ h => ∃ K : PySem.W.Frag, K.In h ∧ SaysU fa fn ts K
  of := fun _ _ e => ⟨_, He.frG_in, e⟩
  keeps := fun _ _ _ ⟨K, hK, c⟩ k => ⟨K, PySem.W.Frag.In.keeps hK k, c⟩
theorem obsUG_eq {n : Nat} {fa : List He.Fa} {fn : List He.DefD} {ts : List (Str × List Int)} {g : Addr → Option Obj} {s : Shared} (h : ∀ a, g a = s.heap.get? a) : obsUG n fa fn ts g = (hookU n fa fn ts).obs s := by
  have e : g = s.heap.get? := funext h
  rw [e] <;> rfl
theorem SaysU.d {fa : List He.Fa} {fn : List He.DefD} {ts : List (Str × List Int)} {K : PySem.W.Frag} (c : SaysU fa fn ts K) : He.SaysD fa fn K := congrArg (fun z : AlU => z.1) c
theorem SaysU.tup {fa : List He.Fa} {fn : List He.DefD} {ts : List (Str × List Int)} {K : PySem.W.Frag} (c : SaysU fa fn ts K) (i : Nat) {x : Str} {is : List Int} (h : ts[i]? = some (x, is)) (H : Hp) : SqT K H (He.ga K x) (is.map V.int) := by
  have c1 : tupsOk ts K = true := congrArg (fun z : AlU => z.2) c
  have c2 := List.all_eq_true.mp c1 _ (List.mem_of_getElem? h)
  have c3 := He.tupB_ok c2 H
  rw [List.map_map] at c3
  exact c3
end DV
set_option Elab.async false
set_option linter.all false
set_option maxRecDepth 100000
set_option maxHeartbeats 4000000
namespace DV
open PySem
def takenD : DS :=
  (seqS (ifS (asB (bin gtI (ixE (var 0) (cst (.int 3))) (cst (.int 0)))) (seqS (asgS 3 (bin modD (blt intD (consL (ixE (var 0) (cst (.int 3))) nilL)) (var 1)))
  (seqS (putS (bin divD (ixE (var 0) (cst (.int 3))) (var 1)) (var 0) (cst (.int 3)))
  (rtS (var 3)))) nilS)
  (seqS (putS (bin addD (ixE (var 0) (cst (.int 1))) (cst (.int 1))) (var 0) (cst (.int 1)))
  (seqS (ifS (asB (bin gtI (ixE (var 0) (cst (.int 1))) (blt lenD (consL (ixE (var 0) (cst (.int 0))) nilL)))) (seqS (putS (bin modD (blt intD (consL (bin addD (bin mulD (ixE (var 0) (cst (.int 2))) (cst (.int 48271))) (cst (.int 11))) nilL)) (cst (.int 2147483647))) (var 0) (cst (.int 2)))
  (rtS (bin modD (blt intD (consL (bin divD (ixE (var 0) (cst (.int 2))) (cst (.int 7))) nilL)) (var 1)))) nilS)
  (seqS (asgS 2 (ixE (ixE (var 0) (cst (.int 0))) (bin subD (ixE (var 0) (cst (.int 1))) (cst (.int 1)))))
  (seqS (putS (bin modD (blt intD (consL (bin addD (bin addD (bin mulD (ixE (var 0) (cst (.int 2))) (cst (.int 48271))) (var 2)) (cst (.int 11))) nilL)) (cst (.int 2147483647))) (var 0) (cst (.int 2)))
  (seqS (ifS (asB (bin geI (var 2) (bin powD (cst (.int 10)) (cst (.int 18))))) (putS (bin divD (var 2) (var 1)) (var 0) (cst (.int 3))) nilS)
  (rtS (bin modD (blt intD (consL (var 2) nilL)) (var 1)))))))))
def takenF : FnR := runR 4 2 takenD
def rowD (ns : List Int) (i m c : Int) : List PyData := [scrD ns, .int i, .int m, .int c]
def RowOk (row : List PyData) : Prop := ∃ ns i m c, row = rowD ns i m c ∧ 0 ≤ i ∧ 0 ≤ m ∧ m < 2147483647
theorem log_row {m : Int} (h0 : 0 ≤ m) (h1 : m < 2147483647) : m.natAbs.log2 + Nat.log2 48271 < 1000000 := by
  have h2 : m.natAbs.log2 < 40 := by
    by_cases z : m.natAbs = 0
    · rw [z]; decide
    · exact (Nat.log2_lt z).mpr (by omega)
  have h3 : Nat.log2 48271 < 40 := by decide +kernel
  omega
theorem taken_ok {row : List PyData} {many : Int} (hr : RowOk row) (hm : 0 < many) (hl : many.natAbs.log2 < 9000) :
    ∃ r row', takenF [.int many] row = .ok (.int r) row' ∧ RowOk row' ∧ 0 ≤ r ∧ r < many := by
  obtain ⟨ns, i, m, c, rfl, hi, h0, h1⟩ := hr
  have lg := log_row h0 h1
  have rd : ∀ z : Int, 0 ≤ z % many ∧ z % many < many := fun z => ⟨Int.emod_nonneg _ (by omega), Int.emod_lt_of_pos _ hm⟩
  have rm : ∀ z : Int, 0 ≤ z % 2147483647 ∧ z % 2147483647 < 2147483647 := fun z => ⟨Int.emod_nonneg _ (by omega), Int.emod_lt_of_pos _ (by omega)⟩
  unfold takenF takenD rowD
  by_cases hc : 0 < c
  · refine ⟨c % many, rowD ns i m (c / many), ?_, ⟨ns, i, m, _, rfl, hi, h0, h1⟩, rd c⟩
    simp [slots, seqS, ifS, asB, bin, ixE, var, cst, two, dat, okD, ixV, R.bind, thenS, gtI, ltI, leI, geI, cmpI, asgS, blt, consL, nilL, dats, intD, modD, divD, putS, putV, lstAt, rtS, frz, endR, outR, allD, nilS, addD, subD, mulD, lenD, absD, runR, runP, endP, parS, setV, fzd, fzds, L2.atI, L2.ixN, hc, hm, hl, rowD]
  · by_cases hg : (ns.length : Int) < i + 1
    · refine ⟨(m * 48271 + 11) % 2147483647 / 7 % many, rowD ns (i + 1) ((m * 48271 + 11) % 2147483647) c, ?_, ⟨ns, _, _, _, rfl, by omega, rm _⟩, rd _⟩
      have l7 : Nat.log2 7 < 9000 := by decide +kernel
      simp [slots, seqS, ifS, asB, bin, ixE, var, cst, two, dat, okD, ixV, R.bind, thenS, gtI, ltI, leI, geI, cmpI, asgS, blt, consL, nilL, dats, intD, modD, divD, putS, putV, lstAt, rtS, frz, endR, outR, allD, nilS, addD, subD, mulD, lenD, absD, runR, runP, endP, parS, setV, fzd, fzds, L2.atI, L2.ixN, hc, hm, hl, scrD, hg, lg, l7, rowD]
    · have hlt : i.toNat < ns.length := by omega
      have hx : i < (ns.length : Int) := by omega
      generalize hcell : ns[i.toNat] = cell
      have hp : powD (.int 10) (.int 18) = some (.int 1000000000000000000) := by rfl
      by_cases hb : 1000000000000000000 ≤ cell
      · refine ⟨cell % many, rowD ns (i + 1) ((m * 48271 + cell + 11) % 2147483647) (cell / many), ?_, ⟨ns, _, _, _, rfl, by omega, rm _⟩, rd _⟩
        simp [slots, seqS, ifS, asB, bin, ixE, var, cst, two, dat, okD, ixV, R.bind, thenS, gtI, ltI, leI, geI, cmpI, asgS, blt, consL, nilL, dats, intD, modD, divD, putS, putV, lstAt, rtS, frz, endR, outR, allD, nilS, addD, subD, mulD, lenD, absD, runR, runP, endP, parS, setV, fzd, fzds, L2.atI, L2.ixN, hc, hm, hl, scrD, hg, lg, hi, hx, hlt, hcell, rowD, hp, hb]
      · refine ⟨cell % many, rowD ns (i + 1) ((m * 48271 + cell + 11) % 2147483647) c, ?_, ⟨ns, _, _, _, rfl, by omega, rm _⟩, rd _⟩
        simp [slots, seqS, ifS, asB, bin, ixE, var, cst, two, dat, okD, ixV, R.bind, thenS, gtI, ltI, leI, geI, cmpI, asgS, blt, consL, nilL, dats, intD, modD, divD, putS, putV, lstAt, rtS, frz, endR, outR, allD, nilS, addD, subD, mulD, lenD, absD, runR, runP, endP, parS, setV, fzd, fzds, L2.atI, L2.ixN, hc, hm, hl, scrD, hg, lg, hi, hx, hlt, hcell, rowD, hp, hb]
def pickD : DS := (rtS (ixE (var 1) (callR takenF (var 0) (consL (blt lenD (consL (var 1) nilL)) nilL))))
def pickF : FnR := runR 2 2 pickD
theorem atI_at {α : Type} {xs : List α} {r : Int} (h0 : 0 ≤ r) (h1 : r < xs.length) : ∃ x, L2.atI xs r = some x ∧ x ∈ xs := by
  have hl : r.toNat < xs.length := by omega
  refine ⟨xs[r.toNat], ?_, List.getElem_mem hl⟩
  simp [L2.atI, L2.ixN, h0, h1]
theorem pick_ok {row : List PyData} {xs : List PyData} (hr : RowOk row) (h0 : xs ≠ []) (hl : xs.length ≤ 1000000) :
    ∃ x row', pickF [.list xs] row = .ok x row' ∧ RowOk row' ∧ x ∈ xs := by
  have h1 : 0 < xs.length := List.length_pos_iff.mpr h0
  have hlog : (xs.length : Int).natAbs.log2 < 9000 := by
    have h2 : (xs.length : Int).natAbs ≠ 0 := by omega
    have : (xs.length : Int).natAbs.log2 < 40 := (Nat.log2_lt h2).mpr (by omega)
    omega
  obtain ⟨r, row', e, ok, r0, r1⟩ := taken_ok hr (many := xs.length) (by omega) hlog
  obtain ⟨x, ex, hx⟩ := atI_at r0 r1
  refine ⟨x, row', ?_, ok, hx⟩
  unfold pickF pickD
  simp [slots, seqS, ifS, asB, bin, ixE, var, cst, two, dat, okD, ixV, R.bind, thenS, gtI, ltI, leI, geI, cmpI, asgS, blt, consL, nilL, dats, intD, modD, divD, putS, putV, lstAt, rtS, frz, endR, outR, allD, nilS, addD, subD, mulD, lenD, absD, runR, runP, endP, parS, setV, fzd, fzds, callR, frzL, e, allD_map, ex]
end DV
set_option Elab.async false
set_option linter.all false
set_option maxRecDepth 100000
set_option maxHeartbeats 4000000
namespace DV
open PySem
theorem fgo_range {slot : Nat} {g : DS} {P : Nat → Sl → Sto → Prop} {lo : Int} {cnt : Nat} (h : ∀ i sl S, i < cnt → P i sl S → ∃ sl' S', g (sl.set slot (some (.d (.int (lo + (i : Nat)))))) S = .nx sl' S' ∧ P (i + 1) sl' S') {sl : Sl} {S : Sto} (h0 : P 0 sl S) :
    ∃ sl' S', fgo (.nm slot) g (rangeL lo cnt) sl S = .nx sl' S' ∧ P cnt sl' S' := by
  have main : ∀ (k i : Nat) (sl : Sl) (S : Sto), i + k = cnt → P i sl S → ∃ sl' S', fgo (.nm slot) g ((List.range' i k).map fun i => .int (lo + (i : Nat))) sl S = .nx sl' S' ∧ P cnt sl' S' := by
    intro k
    induction k with
    | zero =>
      intro i sl S e p
      have : i = cnt := by omega
      subst this
      exact ⟨sl, S, rfl, p⟩
    | succ k ih =>
      intro i sl S e p
      obtain ⟨sl1, S1, e1, p1⟩ := h i sl S (by omega) p
      obtain ⟨sl2, S2, e2, p2⟩ := ih (i + 1) sl1 S1 (by omega) p1
      refine ⟨sl2, S2, ?_, p2⟩
      rw [List.range'_succ, List.map_cons]
      unfold fgo
      simp only [setT, e1]
      exact e2
  have := main cnt 0 sl S (by omega) h0
  unfold rangeL
  rwa [List.range_eq_range']
/-- the table M of n by n in the store, behind a row -/
def linV (n : Nat) (f : Nat → Int) : List Val := (List.range n).map fun j => .d (.int (f j))
def matS (row : List PyData) (n : Nat) (M : Nat → Nat → Int) : Sto := .lst (row.map .d) :: (((List.range n).map fun i => Ob.lst (linV n (M i))) ++ [.lst ((List.range n).map fun i => .loc (i + 1))])
def upd2 (M : Nat → Nat → Int) (i j : Nat) (v : Int) : Nat → Nat → Int := fun a b => if a = i ∧ b = j then v else M a b
section
variable {row row' : List PyData} {n i j : Nat} {M : Nat → Nat → Int} {v : Int}
theorem mat_len : (matS row n M).length = n + 2 := by simp [matS]
theorem mat_0 : (matS row n M)[0]? = some (.lst (row.map .d)) := rfl
theorem mat_i (h : i < n) : (matS row n M)[i + 1]? = some (.lst (linV n (M i))) := by
  simp [matS, List.getElem?_append, h]
theorem mat_n : (matS row n M)[n + 1]? = some (.lst ((List.range n).map fun i => .loc (i + 1))) := by
  simp [matS, List.getElem?_append]
theorem mat_set0 : (matS row n M).set 0 (.lst (row'.map .d)) = matS row' n M := rfl
theorem map_set {α : Type} (f : Nat → α) (n i : Nat) (v : α) : ((List.range n).map f).set i v = (List.range n).map fun k => if k = i then v else f k := by
  apply List.ext_getElem?
  intro k
  by_cases hk : k < n
  · by_cases e : k = i
    · subst e; simp [hk]
    · have e' : ¬ i = k := fun q => e q.symm
      simp [List.getElem?_set, e, e', hk]
  · simp [List.getElem?_set, hk]
theorem mat_set (h : i < n) : (matS row n M).set (i + 1) (.lst ((linV n (M i)).set j (.d (.int v)))) = matS row n (upd2 M i j v) := by
  unfold matS
  rw [List.set_cons_succ, List.set_append_left _ _ (by simpa using h), map_set]
  congr 2
  apply List.map_congr_left
  intro k hk
  by_cases e : k = i
  · subst e
    rw [if_pos rfl]
    unfold linV
    rw [map_set]
    congr 1
    apply List.map_congr_left
    intro q hq
    unfold upd2
    by_cases e2 : q = j
    · simp [e2]
    · simp [e2]
  · rw [if_neg e]
    congr 1
    unfold linV
    apply List.map_congr_left
    intro q hq
    simp [upd2, e]
theorem lin_len {f : Nat → Int} : (linV n f).length = n := by simp [linV]
theorem ixN_of {n i : Nat} (h : i < n) : L2.ixN n (i : Int) = some i := by
  have : (i : Int) < n := by omega
  simp [L2.ixN, this]
theorem atI_map {α : Type} (f : Nat → α) {n i : Nat} (h : i < n) : L2.atI ((List.range n).map f) (i : Int) = some (f i) := by
  unfold L2.atI
  rw [List.length_map, List.length_range, ixN_of h]
  simp [h]
theorem mat_ix (h : i < n) : ixV (matS row n M) (.loc (n + 1)) (.d (.int i)) = .ok (.loc (i + 1)) (matS row n M) := by
  unfold ixV
  simp only [mat_n, atI_map _ h]
theorem mat_put (hi : i < n) (hj : j < n) : putV (matS row n M) (.loc (i + 1)) (.d (.int j)) (.d (.int v)) = some (matS row n (upd2 M i j v)) := by
  unfold putV lstAt
  simp only [mat_i hi, lin_len, ixN_of hj, mat_set hi]
theorem mat_lst0 : lstAt (matS row n M) (.loc 0) = some (0, row.map .d) := by
  unfold lstAt
  simp only [mat_0]
end
/-- turned about, small -/
def Skew (b : Int) (M : Nat → Nat → Int) : Prop := ∀ i j, M j i = -M i j ∧ -b ≤ M i j ∧ M i j ≤ b
theorem Skew.put {b : Int} {M : Nat → Nat → Int} (h : Skew b M) {y z : Nat} (hn : y ≠ z) {v : Int} (h1 : -b ≤ v) (h2 : v ≤ b) : Skew b (upd2 (upd2 M y z v) z y (0 - v)) := by
  intro i j
  obtain ⟨a1, a2, a3⟩ := h i j
  unfold upd2
  by_cases e1 : i = y ∧ j = z
  · obtain ⟨rfl, rfl⟩ := e1
    have : ¬ (i = j ∧ j = i) := fun q => hn q.1
    simp [this]
    omega
  · by_cases e2 : i = z ∧ j = y
    · obtain ⟨rfl, rfl⟩ := e2
      have : ¬ (j = i ∧ i = j) := fun q => hn q.1
      simp [this]
      omega
    · have e1' : ¬ (j = z ∧ i = y) := fun q => e1 ⟨q.2, q.1⟩
      have e2' : ¬ (j = y ∧ i = z) := fun q => e2 ⟨q.2, q.1⟩
      simp only [if_neg e1, if_neg e2, if_neg e1', if_neg e2']
      exact ⟨a1, a2, a3⟩
theorem Skew.zero {b : Int} (h : 0 ≤ b) : Skew b fun _ _ => 0 := fun _ _ => ⟨rfl, by show -b ≤ (0 : Int); omega, h⟩
/-! freezing the table -/
def webD (n : Nat) (M : Nat → Nat → Int) : PyData := .tuple ((List.range n).map fun i => .tuple ((List.range n).map fun j => .int (M i j)))
def linD (n : Nat) (f : Nat → Int) : List PyData := (List.range n).map fun j => .int (f j)
theorem linV_eq (n : Nat) (f : Nat → Int) : linV n f = (linD n f).map .d := by simp [linV, linD]
def matK (row : List PyData) (n : Nat) (M : Nat → Nat → Int) (k : Nat) : Sto := .lst (row.map .d) :: (((List.range n).map fun i => if i < k then Ob.frz (linD n (M i)) else Ob.lst (linV n (M i))) ++ [.lst ((List.range n).map fun i => .loc (i + 1))])
theorem matK_0 {row : List PyData} {n : Nat} {M : Nat → Nat → Int} : matK row n M 0 = matS row n M := by simp [matK, matS]
theorem matK_i {row : List PyData} {n i k : Nat} {M : Nat → Nat → Int} (h : i < n) : (matK row n M k)[i + 1]? = some (if i < k then Ob.frz (linD n (M i)) else Ob.lst (linV n (M i))) := by
  simp [matK, List.getElem?_append, h]
theorem matK_n {row : List PyData} {n k : Nat} {M : Nat → Nat → Int} : (matK row n M k)[n + 1]? = some (.lst ((List.range n).map fun i => .loc (i + 1))) := by
  simp [matK, List.getElem?_append]
theorem eachS_d (f : Sto → Val → Option Sto) (hf : ∀ S x, f S (.d x) = some S) (S : Sto) : ∀ ds : List PyData, eachS f S (ds.map .d) = some S
  | [] => rfl
  | d :: ds => by simp only [List.map_cons, eachS, hf, eachS_d f hf S ds]
theorem fzds_d (S : Sto) : ∀ ds : List PyData, fzds S (ds.map .d) = some ds
  | [] => rfl
  | d :: ds => by simp only [List.map_cons, fzds, fzd, fzds_d S ds]
theorem frzS_line {S : Sto} {k : Nat} {m : Nat} {ds : List PyData} (h : S[k]? = some (.lst (ds.map .d))) : frzS (m + 2) S (.loc k) = some (S.set k (.frz ds)) := by
  have e : eachS (frzS (m + 1)) S (ds.map .d) = some S := eachS_d _ (fun S x => by simp [frzS]) S ds
  unfold frzS
  simp only [h, e, fzds_d]
theorem frz_line {row : List PyData} {n i : Nat} {M : Nat → Nat → Int} (h : i < n) : frzS 3 (matK row n M i) (.loc (i + 1)) = some (matK row n M (i + 1)) := by
  have e : (matK row n M i)[i + 1]? = some (.lst ((linD n (M i)).map .d)) := by rw [matK_i h, if_neg (Nat.lt_irrefl i), linV_eq]
  rw [frzS_line e]
  congr 1
  unfold matK
  rw [List.set_cons_succ, List.set_append_left _ _ (by simpa using h), map_set]
  congr 2
  apply List.map_congr_left
  intro q hq
  by_cases e1 : q = i
  · subst e1; simp
  · rw [if_neg e1]
    by_cases e2 : q < i
    · rw [if_pos e2, if_pos (by omega)]
    · rw [if_neg e2, if_neg (by omega)]
theorem frz_lines {row : List PyData} {n : Nat} {M : Nat → Nat → Int} : ∀ (k i : Nat), i + k ≤ n → eachS (frzS 3) (matK row n M i) ((List.range' i k).map fun i => .loc (i + 1)) = some (matK row n M (i + k))
  | 0, i, _ => rfl
  | k + 1, i, h => by
    rw [List.range'_succ, List.map_cons]
    have e1 := frz_line (row := row) (M := M) (show i < n by omega)
    have e2 := frz_lines (row := row) (M := M) (n := n) k (i + 1) (by omega)
    unfold eachS
    simp only [e1, e2]
    rw [show i + 1 + k = i + (k + 1) by omega]
theorem fzds_map {S : Sto} (g : Nat → Val) (f : Nat → PyData) : ∀ l : List Nat, (∀ i ∈ l, fzd S (g i) = some (f i)) → fzds S (l.map g) = some (l.map f)
  | [], _ => rfl
  | a :: l, h => by
    simp only [List.map_cons, fzds, h a (List.mem_cons_self), fzds_map g f l fun i hi => h i (List.mem_cons_of_mem _ hi)]
theorem frz_mat {row : List PyData} {n : Nat} {M : Nat → Nat → Int} : ∃ S', frz (matS row n M) (.loc (n + 1)) = some (.list ((List.range n).map fun i => .list (linD n (M i))), S') ∧ S'[0]? = some (.lst (row.map .d)) := by
  have e1 := frz_lines (row := row) (M := M) (n := n) n 0 (by omega)
  rw [← List.range_eq_range', matK_0, Nat.zero_add] at e1
  have e2 : fzds (matK row n M n) ((List.range n).map fun i => .loc (i + 1)) = some ((List.range n).map fun i => .list (linD n (M i))) := by
    apply fzds_map
    intro i hi
    have hi' : i < n := List.mem_range.mp hi
    simp only [fzd, matK_i hi', if_pos hi']
  refine ⟨(matK row n M n).set (n + 1) (.frz ((List.range n).map fun i => .list (linD n (M i)))), ?_, ?_⟩
  · unfold frz frzS
    simp only [mat_n, e1, matK_n, e2]
    have hl : n + 1 < (matK row n M n).length := by simp [matK]
    simp [fzd, hl]
  · simp [matK]
/-! comprehensions that change nothing -/
theorem lcGo_map {slot : Nat} {tt : DB} {el : DE} {sl : Sl} {S : Sto} {p : PyData → Bool} {f : PyData → PyData} : ∀ (ds : List PyData) (n : Nat), (∀ d ∈ ds, tt (sl.set slot (some (.d d))) S = .ok (p d) S) → (∀ d ∈ ds, p d = true → el (sl.set slot (some (.d d))) S = .ok (.d (f d)) S) → n + ds.length ≤ sizeLine →
    lcGo (.nm slot) tt el sl n ds S = .ok (((ds.filter p).map f).map .d) S
  | [], _, _, _, _ => rfl
  | d :: ds, n, h1, h2, h3 => by
    have i1 := h1 d List.mem_cons_self
    simp only [List.length_cons] at h3
    unfold lcGo
    simp only [setT, i1, nb]
    by_cases c : p d = true
    · have i2 := h2 d List.mem_cons_self c
      have ih := lcGo_map ds (n + 1) (fun d hd => h1 d (List.mem_cons_of_mem _ hd)) (fun d hd => h2 d (List.mem_cons_of_mem _ hd)) (by omega)
      simp [c, i2, show n < sizeLine by omega, ih, R.bind, List.filter_cons]
    · have ih := lcGo_map ds n (fun d hd => h1 d (List.mem_cons_of_mem _ hd)) (fun d hd => h2 d (List.mem_cons_of_mem _ hd)) (by omega)
      simp [c, ih, List.filter_cons]
theorem lcGo_yes {slot : Nat} {el : DE} {sl : Sl} {S : Sto} {f : PyData → PyData} (ds : List PyData) (n : Nat) (h : ∀ d ∈ ds, el (sl.set slot (some (.d d))) S = .ok (.d (f d)) S) (hn : n + ds.length ≤ sizeLine) : lcGo (.nm slot) yes el sl n ds S = .ok ((ds.map f).map .d) S := by
  have := lcGo_map (p := fun _ => true) (f := f) ds n (tt := yes) (fun _ _ => rfl) (fun d hd _ => h d hd) hn
  rw [List.filter_eq_self.mpr (fun _ _ => rfl)] at this
  exact this
end DV
set_option Elab.async false
set_option linter.all false
set_option maxRecDepth 100000
set_option maxHeartbeats 4000000
namespace DV
open PySem
section
variable {g g2 : DS} {f fa fb fc : DE} {la : DL} {lg : DF} {c c2 : DB} {sl sl1 : Sl} {S S1 S2 S3 : Sto} {r : RS} {x y z : Val} {d d1 d2 d3 : PyData} {ds : List PyData} {xs : List Val} {i : Nat} {b : Bool}
theorem z_seq (h : g sl S = .nx sl1 S1) (h2 : g2 sl1 S1 = r) : seqS g g2 sl S = r := by
  show (match g sl S with | .nx sl' S' => g2 sl' S' | r => r) = r
  rw [h]; exact h2
theorem z_seqR (h : g sl S = .rt d S1) : seqS g g2 sl S = .rt d S1 := by
  show (match g sl S with | .nx sl' S' => g2 sl' S' | r => r) = _
  rw [h]
theorem z_asg (h : f sl S = .ok x S1) : asgS i f sl S = .nx (sl.set i (some x)) S1 := by
  show thenS (f sl S) sl _ = _
  rw [h]; rfl
theorem z_ex (h : f sl S = .ok x S1) : exS f sl S = .nx sl S1 := by
  show thenS (f sl S) sl _ = _
  rw [h]; rfl
theorem z_if (h : c sl S = .ok b S1) (h2 : (if b = true then g sl S1 else g2 sl S1) = r) : ifS c g g2 sl S = r := by
  show thenS (c sl S) sl _ = _
  rw [h]; exact h2
theorem z_ifT (h : c sl S = .ok true S1) (h2 : g sl S1 = r) : ifS c g g2 sl S = r := z_if h h2
theorem z_ifF (h : c sl S = .ok false S1) (h2 : g2 sl S1 = r) : ifS c g g2 sl S = r := z_if h h2
theorem z_rt (h : f sl S = .ok (.d d) S1) : rtS f sl S = .rt d S1 := by
  show thenS (f sl S) sl _ = _
  rw [h]; rfl
theorem z_rtL (h : f sl S = .ok x S1) (h2 : frz S1 x = some (d, S2)) : rtS f sl S = .rt d S2 := by
  show thenS (f sl S) sl _ = _
  rw [h]
  show (match frz S1 x with | some (d, S2) => RS.rt d S2 | none => .bad) = _
  rw [h2]
theorem z_for {it : IT} {tg : Tg} (h : it sl S = .ok ds S1) (h2 : fgo tg g ds sl S1 = r) : forS it tg g sl S = r := by
  show thenS (it sl S) sl _ = _
  rw [h]; exact h2
theorem z_own (h : lg sl S = .ok xs S1) : ownE lg sl S = .ok (.loc S1.length) (S1 ++ [.lst xs]) := by
  show (lg sl S).bind _ = _
  rw [h]; rfl
theorem frzL_d (S : Sto) : ∀ ds : List PyData, frzL S (ds.map .d) = some (ds, S)
  | [] => rfl
  | d :: ds => by simp only [List.map_cons, frzL, frz, frzL_d S ds]
theorem dats_d (S : Sto) : ∀ ds : List PyData, dats S (ds.map .d) = some ds
  | [] => rfl
  | d :: ds => by simp only [List.map_cons, dats, dat, dats_d S ds]
theorem z_frzE (h : lg sl S = .ok (ds.map .d) S1) : frzE lg sl S = .ok (.d (.list ds)) S1 := by
  show (lg sl S).bind _ = _
  rw [h]
  show (match frzL S1 (ds.map .d) with | some (ds, S2) => R.ok (Val.d (.list ds)) S2 | none => .bad) = _
  rw [frzL_d]
theorem z_sz (h : lg sl S = .ok xs S1) (h2 : xs.length ≤ sizeLine) : szF lg sl S = .ok xs S1 := by
  show (lg sl S).bind _ = _
  rw [h]
  exact if_pos h2
theorem z_nil : nilL sl S = .ok [] S := rfl
theorem z_cons (h : f sl S = .ok x S1) (h2 : la sl S1 = .ok xs S2) : consL f la sl S = .ok (x :: xs) S2 := by
  show (f sl S).bind _ = _
  rw [h]
  show (la sl S1).bind _ = _
  rw [h2]; rfl
/-- all data -/
theorem z_consD (h : f sl S = .ok (.d d) S1) (h2 : la sl S1 = .ok (ds.map .d) S2) : consL f la sl S = .ok ((d :: ds).map .d) S2 := z_cons h h2
theorem z_nilD : nilL sl S = .ok (([] : List PyData).map .d) S := rfl
theorem z_blt {gg : List PyData → Option PyData} (h : la sl S = .ok (ds.map .d) S1) (h2 : gg ds = some d) : blt gg la sl S = .ok (.d d) S1 := by
  show (la sl S).bind _ = _
  rw [h]
  show (match dats S1 (ds.map .d) with | some ds => okD (gg ds) S1 | none => .bad) = _
  rw [dats_d]
  show okD (gg ds) S1 = _
  rw [h2]; rfl
theorem z_bin {gg : PyData → PyData → Option PyData} (h : fa sl S = .ok (.d d1) S1) (h2 : fb sl S1 = .ok (.d d2) S2) (h3 : gg d1 d2 = some d) : bin gg fa fb sl S = .ok (.d d) S2 := by
  show (fa sl S).bind _ = _
  rw [h]
  show (fb sl S1).bind _ = _
  rw [h2]
  show okD (gg d1 d2) S2 = _
  rw [h3]; rfl
theorem z_un {gg : PyData → Option PyData} (h : fa sl S = .ok (.d d1) S1) (h3 : gg d1 = some d) : un gg fa sl S = .ok (.d d) S1 := by
  show (fa sl S).bind _ = _
  rw [h]
  show okD (gg d1) S1 = _
  rw [h3]; rfl
theorem z_asB (h : f sl S = .ok (.d (.bool b)) S1) : asB f sl S = .ok b S1 := by
  show (f sl S).bind _ = _
  rw [h]; rfl
theorem z_not (h : c sl S = .ok b S1) : notB c sl S = .ok (!b) S1 := by
  show (c sl S).bind _ = _
  rw [h]; rfl
theorem z_notT (h : c sl S = .ok true S1) : notB c sl S = .ok false S1 := z_not h
theorem z_notF (h : c sl S = .ok false S1) : notB c sl S = .ok true S1 := z_not h
theorem z_orT (h : c sl S = .ok true S1) : orB c c2 sl S = .ok true S1 := by
  show (c sl S).bind _ = _
  rw [h]; rfl
theorem z_orF {r : R Bool} (h : c sl S = .ok false S1) (h2 : c2 sl S1 = r) : orB c c2 sl S = r := by
  show (c sl S).bind _ = _
  rw [h]; exact h2
theorem z_andF (h : c sl S = .ok false S1) : andB c c2 sl S = .ok false S1 := by
  show (c sl S).bind _ = _
  rw [h]; rfl
theorem z_andT {r : R Bool} (h : c sl S = .ok true S1) (h2 : c2 sl S1 = r) : andB c c2 sl S = r := by
  show (c sl S).bind _ = _
  rw [h]; exact h2
theorem z_andVT {r : R Val} (h : fa sl S = .ok (.d (.bool true)) S1) (h2 : fb sl S1 = r) : andV fa fb sl S = r := by
  show (fa sl S).bind _ = _
  rw [h]; exact h2
theorem z_andVF (h : fa sl S = .ok (.d (.bool false)) S1) : andV fa fb sl S = .ok (.d (.bool false)) S1 := by
  show (fa sl S).bind _ = _
  rw [h]; rfl
theorem z_notV (h : fa sl S = .ok (.d (.bool b)) S1) : notV fa sl S = .ok (.d (.bool !b)) S1 := by
  show (fa sl S).bind _ = _
  rw [h]; rfl
theorem z_callP {Fn : FnP} (h : la sl S = .ok (ds.map .d) S1) (h2 : Fn ds = .ok d) : callP Fn la sl S = .ok (.d d) S1 := by
  show (la sl S).bind _ = _
  rw [h]
  show (match frzL S1 (ds.map .d) with | some (ds, S2) => (match Fn ds with | .ok x => R.ok (Val.d x) S2 | .er e => .er e S2 | .bad => .bad) | none => .bad) = _
  rw [frzL_d]
  show (match Fn ds with | .ok x => R.ok (Val.d x) S1 | .er e => .er e S1 | .bad => .bad) = _
  rw [h2]
theorem z_callR {Fn : FnR} {k : Nat} {row row' : List PyData} (h0 : f sl S = .ok (.loc k) S1) (hl : la sl S1 = .ok (ds.map .d) S2) (hk : S2[k]? = some (.lst (row.map .d))) (e : Fn ds row = .ok d row') :
    callR Fn f la sl S = .ok (.d d) (S2.set k (.lst (row'.map .d))) := by
  unfold callR
  rw [h0]
  simp only [R.bind]
  rw [hl]
  simp only [frzL_d, lstAt, hk, allD_map, e]
theorem z_tup (h : la sl S = .ok (ds.map .d) S1) (h2 : ds.length ≤ sizeLine) : tupE la sl S = .ok (.d (.tuple ds)) S1 := by
  show (la sl S).bind _ = _
  rw [h]
  show (match frzL S1 (ds.map .d) with | some (ds, S2) => if ds.length ≤ sizeLine then R.ok (Val.d (.tuple ds)) S2 else .bad | none => .bad) = _
  rw [frzL_d]
  exact if_pos h2
theorem z_ix (h : fa sl S = .ok x S1) (h2 : fb sl S1 = .ok y S2) {r : R Val} (h3 : ixV S2 x y = r) : ixE fa fb sl S = r := by
  show (fa sl S).bind _ = _
  rw [h]
  show (fb sl S1).bind _ = _
  rw [h2]; exact h3
theorem z_var (h : sl[i]? = some (some x)) : var i sl S = .ok x S := by
  unfold var; rw [h]
theorem z_lc {own : List Nat} {it : IT} {tg : Tg} {tt : DB} {el : DE} {q : R (List Val)} (h : it sl S = .ok ds S1) (h2 : lcGo tg tt el (wipeS sl own) 0 ds S1 = q) : lcF own it tg tt el sl S = q := by
  unfold lcF
  rw [h]
  exact h2
theorem z_seqL (h : fa sl S = .ok (.d (.list ds)) S1) : seqI fa sl S = .ok ds S1 := by
  show (fa sl S).bind _ = _
  rw [h]; rfl
theorem z_seqT (h : fa sl S = .ok (.d (.tuple ds)) S1) : seqI fa sl S = .ok ds S1 := by
  show (fa sl S).bind _ = _
  rw [h]; rfl
theorem z_chain {g1 g2' : PyData → PyData → Option PyData} (h : fa sl S = .ok (.d d1) S1) (h2 : fb sl S1 = .ok (.d d2) S2) (h3 : g1 d1 d2 = some (.bool true)) (h4 : fc sl S2 = .ok (.d d3) S3) (h5 : g2' d2 d3 = some d) : chain g1 g2' fa fb fc sl S = .ok (.d d) S3 := by
  show (fa sl S).bind _ = _
  rw [h]
  show (fb sl S1).bind _ = _
  rw [h2]
  show (okD (g1 d1 d2) S2).bind _ = _
  rw [h3]
  show (fc sl S2).bind _ = _
  rw [h4]
  show okD (g2' d2 d3) S3 = _
  rw [h5]; rfl
theorem z_chainF {g1 g2' : PyData → PyData → Option PyData} (h : fa sl S = .ok (.d d1) S1) (h2 : fb sl S1 = .ok (.d d2) S2) (h3 : g1 d1 d2 = some (.bool false)) : chain g1 g2' fa fb fc sl S = .ok (.d (.bool false)) S2 := by
  show (fa sl S).bind _ = _
  rw [h]
  show (fb sl S1).bind _ = _
  rw [h2]
  show (okD (g1 d1 d2) S2).bind _ = _
  rw [h3]; rfl
theorem z_par {is : List Nat} {sl2 : Sl} (h : la sl S = .ok xs S1) (h2 : setV is xs sl = some sl2) (h3 : is.length ≤ 1000) : parS is la sl S = .nx sl2 S1 := by
  show thenS (la sl S) sl _ = _
  rw [h]
  show (match setV is xs sl with | some sl' => if is.length ≤ 1000 then RS.nx sl' S1 else .bad | none => .bad) = _
  rw [h2]
  exact if_pos h3
theorem z_runP {n m : Nat} {args : List PyData} {q : FR} (h : args.length = m) (h2 : g (slots n (args.map .d)) [] = r) (h3 : endP r = q) : runP n m g args = q := by
  unfold runP
  rw [if_pos h, h2]; exact h3
theorem z_runR {n m : Nat} {args row : List PyData} {q : FRr} (h : args.length + 1 = m) (h2 : g (slots n (.loc 0 :: args.map .d)) [.lst (row.map .d)] = r) (h3 : endR r = q) : runR n m g args row = q := by
  unfold runR
  rw [if_pos h, h2]; exact h3
theorem z_outR {row : List PyData} (h : S[(0 : Nat)]? = some (.lst (row.map .d))) : outR d S = .ok d row := by
  unfold outR
  rw [h]
  simp only [allD_map]
theorem z_put {fv fo fi : DE} {S4 : Sto} (h : fv sl S = .ok z S1) (h2 : fo sl S1 = .ok x S2) (h3 : fi sl S2 = .ok y S3) (h4 : putV S3 x y z = some S4) : putS fv fo fi sl S = .nx sl S4 := by
  show thenS (fv sl S) sl _ = _
  rw [h]
  show thenS (fo sl S1) sl _ = _
  rw [h2]
  show thenS (fi sl S2) sl _ = _
  rw [h3]
  show (match putV S3 x y z with | some S4 => RS.nx sl S4 | none => .bad) = _
  rw [h4]
theorem z_put2 {fv fo fi fo2 fi2 : DE} {S4 S5 S6 S7 : Sto} {x2 y2 : Val} (h : fv sl S = .ok (.d (.tuple [d1, d2])) S1) (h2 : fo sl S1 = .ok x S2) (h3 : fi sl S2 = .ok y S3) (h4 : putV S3 x y (.d d1) = some S4)
    (h5 : fo2 sl S4 = .ok x2 S5) (h6 : fi2 sl S5 = .ok y2 S6) (h7 : putV S6 x2 y2 (.d d2) = some S7) : put2S fv fo fi fo2 fi2 sl S = .nx sl S7 := by
  unfold put2S
  rw [h]
  show thenS (fo sl S1) sl _ = _
  rw [h2]
  show thenS (fi sl S2) sl _ = _
  rw [h3]
  simp only [thenS, h4]
  rw [h5]
  simp only []
  rw [h6]
  simp only [h7]
theorem z_lst1 (h : fa sl S = .ok (.d (.tuple ds)) S1) : lstF fa sl S = .ok (ds.map .d) S1 := by
  show (fa sl S).bind _ = _
  rw [h]; rfl
end
end DV
set_option Elab.async false
set_option linter.all false
set_option maxRecDepth 100000
set_option maxHeartbeats 4000000
namespace DV
open PySem
def webLoop1 : DS := forS (rng1 (consL (var 6) nilL)) (.nm 7) (seqS (asgS 9 (cst (.int 0)))
  (seqS (ifS (asB (bin ltI (var 4) (cst (.int 2)))) (asgS 9 (bin mulD (callR pickF (var 0) (consL (frzE (szF (consL (cst (.int 0)) (consL (cst (.int 0)) (consL (cst (.int 1)) (consL (bin subD (cst (.int 0)) (cst (.int 1))) nilL)))))) nilL)) (bin addD (cst (.int 1)) (callR takenF (var 0) (consL (var 2) nilL))))) (ifS (asB (bin eqD (var 4) (cst (.int 2)))) (asgS 9 (bin mulD (callR pickF (var 0) (consL (frzE (szF (consL (cst (.int 1)) (consL (bin subD (cst (.int 0)) (cst (.int 1))) nilL)))) nilL)) (blt intD (consL (bin eqD (var 7) (bin subD (var 6) (cst (.int 1)))) nilL)))) (ifS (asB (bin eqD (var 4) (cst (.int 3)))) (asgS 9 (bin subD (blt intD (consL (bin eqD (var 7) (bin subD (var 6) (cst (.int 1)))) nilL)) (blt intD (consL (andV (bin eqD (var 7) (cst (.int 0))) (andV (bin eqD (var 6) (bin subD (var 3) (cst (.int 1)))) (bin gtI (var 3) (cst (.int 2))))) nilL)))) nilS)))
  (put2S (tupE (consL (var 9) (consL (bin subD (cst (.int 0)) (var 9)) nilL))) (ixE (var 5) (var 7)) (var 6) (ixE (var 5) (var 6)) (var 7))))
def webLoop2 : DS := forS (rng2 (consL (cst (.int 1)) (consL (var 3) nilL))) (.nm 6) (seqS (parS [7, 9] (consL (callR takenF (var 0) (consL (var 6) nilL)) (consL (callR pickF (var 0) (consL (frzE (szF (consL (cst (.int 1)) (consL (bin subD (cst (.int 0)) (cst (.int 1))) nilL)))) nilL)) nilL)))
  (put2S (tupE (consL (var 9) (consL (bin subD (cst (.int 0)) (var 9)) nilL))) (ixE (var 5) (var 7)) (var 6) (ixE (var 5) (var 6)) (var 7)))
def webD1 : DS :=
  (seqS (parS [3, 4] (consL (bin addD (cst (.int 1)) (callR takenF (var 0) (consL (var 1) nilL))) (consL (callR takenF (var 0) (consL (cst (.int 5)) nilL)) nilL)))
  (seqS (asgS 5 (ownE (lcF [8] (rng1 (consL (var 3) nilL)) (.nm 8) yes (ownE (repF (frzE (szF (consL (cst (.int 0)) nilL))) (var 3))))))
  (seqS (forS (rng2 (consL (cst (.int 1)) (consL (var 3) nilL))) (.nm 6) webLoop1)
  (seqS (ifS (asB (bin eqD (var 4) (cst (.int 4)))) webLoop2 nilS)
  (rtS (blt tupD (consL (frzE (lcF [10] (seqI (var 5)) (.nm 10) yes (blt tupD (consL (var 10) nilL)))) nilL)))))))
def webF : FnR := runR 11 3 webD1
theorem sz_ge (n : Nat) (h : n ≤ 1000) : n ≤ sizeLine := by rw [sizeLine_eq]; omega
theorem eqD_int (i j : Int) : eqD (.int i) (.int j) = some (.bool (decide (i = j))) := by
  unfold eqD
  simp [SeqAt.shaped, PyData.canLay0, PyData.depth, PyData.eqv]
  rfl
theorem put2_ok {row : List PyData} {n y z : Nat} {M : Nat → Nat → Int} {v : Int} (hy : y < n) (hz : z < n) {a1 a2 a3 a4 a8 a10 : Option Val} :
    put2S (tupE (consL (var 9) (consL (bin subD (cst (.int 0)) (var 9)) nilL))) (ixE (var 5) (var 7)) (var 6) (ixE (var 5) (var 6)) (var 7) [some (.loc 0), a1, a2, a3, a4, some (.loc (n + 1)), some (.d (.int z)), some (.d (.int y)), a8, some (.d (.int v)), a10] (matS row n M) =
      .nx [some (.loc 0), a1, a2, a3, a4, some (.loc (n + 1)), some (.d (.int z)), some (.d (.int y)), a8, some (.d (.int v)), a10] (matS row n (upd2 (upd2 M y z v) z y (0 - v))) := by
  have h2 : (2 : Nat) ≤ sizeLine := sz_ge 2 (by decide)
  simp [put2S, tupE, frzL, frz, consL, nilL, var, cst, bin, two, dat, subD, okD, R.bind, thenS, ixE, mat_ix hy, mat_ix hz, mat_put hy hz, mat_put hz hy, h2]
theorem log_small {a : Int} (h : -1000000 ≤ a) (h2 : a ≤ 1000000) : a.natAbs.log2 < 64 := by
  by_cases z : a.natAbs = 0
  · rw [z]; decide
  · exact (Nat.log2_lt z).mpr (by omega)
theorem mulD_small {a b : Int} (h : -1000000 ≤ a) (h2 : a ≤ 1000000) (h3 : -1000000 ≤ b) (h4 : b ≤ 1000000) : mulD (.int a) (.int b) = some (.int (a * b)) := by
  have := log_small h h2
  have := log_small h3 h4
  unfold mulD
  simp only []
  rw [if_pos (by omega)]
theorem frz4 {sl : Sl} {S : Sto} : frzE (szF (consL (cst (.int 0)) (consL (cst (.int 0)) (consL (cst (.int 1)) (consL (bin subD (cst (.int 0)) (cst (.int 1))) nilL))))) sl S = .ok (.d (.list [.int 0, .int 0, .int 1, .int (-1)])) S := by
  have h2 : (4 : Nat) ≤ sizeLine := sz_ge 4 (by decide)
  simp [frzE, szF, frzL, frz, consL, nilL, cst, bin, two, dat, subD, okD, R.bind, h2]
theorem frz2 {sl : Sl} {S : Sto} : frzE (szF (consL (cst (.int 1)) (consL (bin subD (cst (.int 0)) (cst (.int 1))) nilL))) sl S = .ok (.d (.list [.int 1, .int (-1)])) S := by
  have h2 : (2 : Nat) ≤ sizeLine := sz_ge 2 (by decide)
  simp [frzE, szF, frzL, frz, consL, nilL, cst, bin, two, dat, subD, okD, R.bind, h2]
theorem callR_mat {Fn : FnR} {row row' : List PyData} {n : Nat} {M : Nat → Nat → Int} {r : List (Option Val)} {la : DL} {d z : PyData} (hl : la (some (.loc 0) :: r) (matS row n M) = .ok [.d d] (matS row n M)) (e : Fn [d] row = .ok z row') :
    callR Fn (var 0) la (some (.loc 0) :: r) (matS row n M) = .ok (.d z) (matS row' n M) := by
  simp [callR, var, R.bind, hl, frzL, frz, mat_lst0, allD_map, e, mat_set0]
theorem pick4 {row : List PyData} (hr : RowOk row) : ∃ v row', pickF [.list [.int 0, .int 0, .int 1, .int (-1)]] row = .ok (.int v) row' ∧ RowOk row' ∧ -1 ≤ v ∧ v ≤ 1 := by
  obtain ⟨x, row', e, ok, hx⟩ := pick_ok hr (xs := [.int 0, .int 0, .int 1, .int (-1)]) (by simp) (by simp)
  simp only [List.mem_cons, List.not_mem_nil, or_false] at hx
  rcases hx with rfl | rfl | rfl | rfl <;> exact ⟨_, row', e, ok, by decide, by decide⟩
theorem pick2 {row : List PyData} (hr : RowOk row) : ∃ v row', pickF [.list [.int 1, .int (-1)]] row = .ok (.int v) row' ∧ RowOk row' ∧ -1 ≤ v ∧ v ≤ 1 := by
  obtain ⟨x, row', e, ok, hx⟩ := pick_ok hr (xs := [.int 1, .int (-1)]) (by simp) (by simp)
  simp only [List.mem_cons, List.not_mem_nil, or_false] at hx
  rcases hx with rfl | rfl <;> exact ⟨_, row', e, ok, by decide, by decide⟩
def webSl (most strong n way : Int) (m : Nat) (z y v : Option Val) : Sl := [some (.loc 0), some (.d (.int most)), some (.d (.int strong)), some (.d (.int n)), some (.d (.int way)), some (.loc (m + 1)), z, y, none, v, none]
/-- the choice of one arrow -/
theorem arrow_ok {row : List PyData} {m : Nat} {M : Nat → Nat → Int} {most strong n way z y : Int} (hr : RowOk row) (h1 : 1 ≤ strong) (h2 : strong ≤ 1000) :
    ∃ v row', (ifS (asB (bin ltI (var 4) (cst (.int 2)))) (asgS 9 (bin mulD (callR pickF (var 0) (consL (frzE (szF (consL (cst (.int 0)) (consL (cst (.int 0)) (consL (cst (.int 1)) (consL (bin subD (cst (.int 0)) (cst (.int 1))) nilL)))))) nilL)) (bin addD (cst (.int 1)) (callR takenF (var 0) (consL (var 2) nilL))))) (ifS (asB (bin eqD (var 4) (cst (.int 2)))) (asgS 9 (bin mulD (callR pickF (var 0) (consL (frzE (szF (consL (cst (.int 1)) (consL (bin subD (cst (.int 0)) (cst (.int 1))) nilL)))) nilL)) (blt intD (consL (bin eqD (var 7) (bin subD (var 6) (cst (.int 1)))) nilL)))) (ifS (asB (bin eqD (var 4) (cst (.int 3)))) (asgS 9 (bin subD (blt intD (consL (bin eqD (var 7) (bin subD (var 6) (cst (.int 1)))) nilL)) (blt intD (consL (andV (bin eqD (var 7) (cst (.int 0))) (andV (bin eqD (var 6) (bin subD (var 3) (cst (.int 1)))) (bin gtI (var 3) (cst (.int 2))))) nilL)))) nilS)))
      (webSl most strong n way m (some (.d (.int z))) (some (.d (.int y))) (some (.d (.int 0)))) (matS row m M) = .nx (webSl most strong n way m (some (.d (.int z))) (some (.d (.int y))) (some (.d (.int v)))) (matS row' m M) ∧ RowOk row' ∧ -strong ≤ v ∧ v ≤ strong := by
  have hls : strong.natAbs.log2 < 9000 := Nat.lt_trans (log_small (by omega) (by omega)) (by decide)
  by_cases c1 : way < 2
  · obtain ⟨p, row1, e1, ok1, p0, p1⟩ := pick4 hr
    obtain ⟨r, row2, e2, ok2, r0, r1⟩ := taken_ok ok1 (many := strong) (by omega) hls
    have k1 := callR_mat (n := m) (M := M) (r := [some (.d (.int most)), some (.d (.int strong)), some (.d (.int n)), some (.d (.int way)), some (.loc (m + 1)), some (.d (.int z)), some (.d (.int y)), none, some (.d (.int 0)), none]) (la := consL (frzE (szF (consL (cst (.int 0)) (consL (cst (.int 0)) (consL (cst (.int 1)) (consL (bin subD (cst (.int 0)) (cst (.int 1))) nilL)))))) nilL) (by simp [consL, nilL, frz4, R.bind]) e1
    have k2 := callR_mat (n := m) (M := M) (r := [some (.d (.int most)), some (.d (.int strong)), some (.d (.int n)), some (.d (.int way)), some (.loc (m + 1)), some (.d (.int z)), some (.d (.int y)), none, some (.d (.int 0)), none]) (la := consL (var 2) nilL) (by simp [consL, nilL, var, R.bind]) e2
    have k3 := mulD_small (a := p) (b := 1 + r) (by omega) (by omega) (by omega) (by omega)
    refine ⟨p * (1 + r), row2, ?_, ok2, ?_⟩
    · simp [ifS, asB, bin, var, cst, two, dat, ltI, cmpI, okD, R.bind, thenS, c1, asgS, webSl, k1, k2, k3, addD]
    · have : p = -1 ∨ p = 0 ∨ p = 1 := by omega
      rcases this with rfl | rfl | rfl <;> omega
  · by_cases c2 : way = 2
    · obtain ⟨p, row1, e1, ok1, p0, p1⟩ := pick2 hr
      have k1 := callR_mat (n := m) (M := M) (r := [some (.d (.int most)), some (.d (.int strong)), some (.d (.int n)), some (.d (.int way)), some (.loc (m + 1)), some (.d (.int z)), some (.d (.int y)), none, some (.d (.int 0)), none]) (la := consL (frzE (szF (consL (cst (.int 1)) (consL (bin subD (cst (.int 0)) (cst (.int 1))) nilL)))) nilL) (by simp [consL, nilL, frz2, R.bind]) e1
      have k3 := mulD_small (a := p) (b := if y = z - 1 then 1 else 0) (by omega) (by omega) (by split <;> omega) (by split <;> omega)
      refine ⟨p * (if y = z - 1 then 1 else 0), row1, ?_, ok1, ?_⟩
      · subst c2
        simp [ifS, asB, bin, var, cst, two, dat, ltI, cmpI, okD, R.bind, thenS, asgS, webSl, k1, eqD_int, subD, blt, consL, nilL, dats, intD, k3]
      · split <;> omega
    · by_cases c3 : way = 3
      · refine ⟨(if y = z - 1 then 1 else 0) - (if y = 0 ∧ z = n - 1 ∧ 2 < n then 1 else 0), row, ?_, hr, ?_⟩
        · subst c3
          by_cases d1 : y = 0
          · by_cases d2 : z = n - 1
            · simp [ifS, asB, bin, var, cst, two, dat, ltI, cmpI, okD, R.bind, thenS, asgS, webSl, eqD_int, subD, blt, consL, nilL, dats, intD, andV, gtI, d1, d2]
            · simp [ifS, asB, bin, var, cst, two, dat, ltI, cmpI, okD, R.bind, thenS, asgS, webSl, eqD_int, subD, blt, consL, nilL, dats, intD, andV, gtI, d1, d2]
          · simp [ifS, asB, bin, var, cst, two, dat, ltI, cmpI, okD, R.bind, thenS, asgS, webSl, eqD_int, subD, blt, consL, nilL, dats, intD, andV, gtI, d1]
        · split <;> split <;> omega
      · refine ⟨0, row, ?_, hr, by omega, by omega⟩
        simp [ifS, asB, bin, var, cst, two, dat, ltI, cmpI, okD, R.bind, thenS, asgS, webSl, eqD_int, c1, c2, c3, nilS]
theorem two62 : (2 : Int) ^ 62 = 4611686018427387904 := by decide +kernel
theorem lt62 {k : Nat} (hk : k ≤ 1000000) : ((k : Nat) : Int) < 2 ^ 62 := by rw [two62]; omega
theorem ge62 {k : Nat} : -(2 ^ 62) ≤ ((k : Nat) : Int) := by rw [two62]; omega
theorem rngc (j : Int) (S : Sto) (h2 : j < 2 ^ 62) (h3 : -(2 ^ 62) ≤ j) : (if decide (-(2 ^ 62) ≤ j) && decide (j < 2 ^ 62) then R.ok (rangeL 0 j.toNat) S else .bad) = .ok (rangeL 0 j.toNat) S := by
  rw [decide_eq_true h2, decide_eq_true h3]
  rfl
theorem rng1_ok' {la : DL} {sl : Sl} {S : Sto} {j : Int} (h : la sl S = .ok [.d (.int j)] S) (h2 : j < 2 ^ 62) (h3 : -(2 ^ 62) ≤ j) : rng1 la sl S = .ok (rangeL 0 j.toNat) S := by
  unfold rng1
  rw [h]
  exact rngc j S h2 h3
theorem rng1_ok {la : DL} {sl : Sl} {S : Sto} {k : Nat} (h : la sl S = .ok [.d (.int k)] S) (hk : k ≤ 1000000) : rng1 la sl S = .ok (rangeL 0 k) S := by
  have := rng1_ok' h (lt62 hk) ge62
  rwa [Int.toNat_natCast] at this
theorem rngc2 (i j : Int) (S : Sto) (h2 : j < 2 ^ 62) (h3 : -(2 ^ 62) ≤ j) (h4 : i < 2 ^ 62) (h5 : -(2 ^ 62) ≤ i) : (if decide (-(2 ^ 62) ≤ i) && decide (i < 2 ^ 62) && decide (-(2 ^ 62) ≤ j) && decide (j < 2 ^ 62) then R.ok (rangeL i (j - i).toNat) S else .bad) = .ok (rangeL i (j - i).toNat) S := by
  rw [decide_eq_true h2, decide_eq_true h3, decide_eq_true h4, decide_eq_true h5]
  rfl
theorem rng2_ok' {la : DL} {sl : Sl} {S : Sto} {i j : Int} (h : la sl S = .ok [.d (.int i), .d (.int j)] S) (h2 : j < 2 ^ 62) (h3 : -(2 ^ 62) ≤ j) (h4 : i < 2 ^ 62) (h5 : -(2 ^ 62) ≤ i) : rng2 la sl S = .ok (rangeL i (j - i).toNat) S := by
  unfold rng2
  rw [h]
  exact rngc2 i j S h2 h3 h4 h5
theorem rng2_ok {la : DL} {sl : Sl} {S : Sto} {i k : Nat} (h : la sl S = .ok [.d (.int i), .d (.int k)] S) (hi : i ≤ 1000000) (hk : k ≤ 1000000) : rng2 la sl S = .ok (rangeL i (k - i)) S := by
  have := rng2_ok' h (lt62 hk) ge62 (lt62 hi) ge62
  rwa [show ((k : Int) - (i : Int)).toNat = k - i by omega] at this
theorem consL_ok {f : DE} {g : DL} {sl : Sl} {S S1 S2 : Sto} {x : Val} {xs : List Val} (h : f sl S = .ok x S1) (h2 : g sl S1 = .ok xs S2) : consL f g sl S = .ok (x :: xs) S2 := by
  unfold consL
  rw [h]
  simp only [R.bind]
  rw [h2]
def WebP (most strong way : Int) (m : Nat) (z : Option Val) (sl : Sl) (S : Sto) : Prop := ∃ row M y v, sl = webSl most strong m way m z y v ∧ S = matS row m M ∧ RowOk row ∧ Skew strong M
theorem loop1_ok {most strong way : Int} {m z : Nat} (hz : z < m) (hm : m ≤ 1000) (h1 : 1 ≤ strong) (h2 : strong ≤ 1000) {sl : Sl} {S : Sto} (h : WebP most strong way m (some (.d (.int z))) sl S) :
    ∃ sl' S', webLoop1 sl S = .nx sl' S' ∧ WebP most strong way m (some (.d (.int z))) sl' S' := by
  have e0 : rng1 (consL (var 6) nilL) sl S = .ok (rangeL 0 z) S := by
    obtain ⟨row, M, y, v, rfl, rfl, hr, hs⟩ := h
    exact rng1_ok (by simp [consL, nilL, var, R.bind, webSl]) (by omega)
  unfold webLoop1 forS
  rw [e0]
  simp only [thenS]
  refine fgo_range (P := fun _ sl S => WebP most strong way m (some (.d (.int z))) sl S) (fun i sl S hi hp => ?_) h
  obtain ⟨row, M, y, v, rfl, rfl, hr, hs⟩ := hp
  obtain ⟨v', row', e, ok, v0, v1⟩ := arrow_ok (m := m) (M := M) (most := most) (n := m) (way := way) (z := z) (y := i) hr h1 h2
  have hi' : i < m := by omega
  refine ⟨webSl most strong m way m (some (.d (.int z))) (some (.d (.int i))) (some (.d (.int v'))), matS row' m (upd2 (upd2 M i z v') z i (0 - v')), ?_, row', _, _, _, rfl, rfl, ok, hs.put (by omega) v0 v1⟩
  have e1 : asgS 9 (cst (.int 0)) ((webSl most strong m way m (some (.d (.int z))) y v).set 7 (some (.d (.int (0 + (i : Nat)))))) (matS row m M) = .nx (webSl most strong m way m (some (.d (.int z))) (some (.d (.int i))) (some (.d (.int 0)))) (matS row m M) := by
    simp [asgS, cst, thenS, webSl]
  unfold seqS
  rw [e1]
  simp only []
  rw [e]
  simp only []
  unfold webSl
  exact put2_ok hi' hz
theorem loop2_ok {most strong way : Int} {m : Nat} (hm : m ≤ 1000) (h1 : 1 ≤ strong) {z0 : Option Val} {sl : Sl} {S : Sto} (h : WebP most strong way m z0 sl S) :
    ∃ z sl' S', webLoop2 sl S = .nx sl' S' ∧ WebP most strong way m z sl' S' := by
  have e0 : rng2 (consL (cst (.int 1)) (consL (var 3) nilL)) sl S = .ok (rangeL (1 : Nat) (m - 1)) S := by
    obtain ⟨row, M, y, v, rfl, rfl, hr, hs⟩ := h
    exact rng2_ok (by simp [consL, nilL, var, cst, R.bind, webSl]) (by omega) (by omega)
  unfold webLoop2 forS
  rw [e0]
  simp only [thenS]
  have := fgo_range (slot := 6) (lo := (1 : Nat)) (cnt := m - 1) (P := fun _ sl S => ∃ z, WebP most strong way m z sl S) (g := (seqS (parS [7, 9] (consL (callR takenF (var 0) (consL (var 6) nilL)) (consL (callR pickF (var 0) (consL (frzE (szF (consL (cst (.int 1)) (consL (bin subD (cst (.int 0)) (cst (.int 1))) nilL)))) nilL)) nilL)))
  (put2S (tupE (consL (var 9) (consL (bin subD (cst (.int 0)) (var 9)) nilL))) (ixE (var 5) (var 7)) (var 6) (ixE (var 5) (var 6)) (var 7)))) (fun i sl S hi hp => ?_) (sl := sl) (S := S) ⟨z0, h⟩
  · obtain ⟨sl', S', e, z, p⟩ := this
    exact ⟨z, sl', S', e, p⟩
  obtain ⟨z1, row, M, y, v, rfl, rfl, hr, hs⟩ := hp
  have hz : i + 1 < m := by omega
  have hls : ((i + 1 : Nat) : Int).natAbs.log2 < 9000 := Nat.lt_trans (log_small (by omega) (by omega)) (by decide)
  obtain ⟨r, row1, e1, ok1, r0, r1⟩ := taken_ok hr (many := ((i + 1 : Nat) : Int)) (by omega) hls
  obtain ⟨p, row2, e2, ok2, p0, p1⟩ := pick2 ok1
  obtain ⟨q, rfl⟩ : ∃ q : Nat, r = q := ⟨r.toNat, by omega⟩
  have hq : q < m := by omega
  refine ⟨webSl most strong m way m (some (.d (.int ((i + 1 : Nat) : Int)))) (some (.d (.int q))) (some (.d (.int p))), matS row2 m (upd2 (upd2 M q (i + 1) p) (i + 1) q (0 - p)), ?_, _, row2, _, _, _, rfl, rfl, ok2, hs.put (by omega) (by omega) (by omega)⟩
  have ei : ((1 : Nat) : Int) + (i : Nat) = ((i + 1 : Nat) : Int) := by omega
  have es : (webSl most strong m way m z1 y v).set 6 (some (.d (.int (((1 : Nat) : Int) + (i : Nat))))) = webSl most strong m way m (some (.d (.int ((i + 1 : Nat) : Int)))) y v := by rw [ei]; rfl
  rw [es]
  have k1 := callR_mat (n := m) (M := M) (r := (webSl most strong m way m (some (.d (.int ((i + 1 : Nat) : Int)))) y v).tail) (la := consL (var 6) nilL) (by simp [consL, nilL, var, R.bind, webSl]) e1
  have k2 := callR_mat (n := m) (M := M) (r := (webSl most strong m way m (some (.d (.int ((i + 1 : Nat) : Int)))) y v).tail) (la := consL (frzE (szF (consL (cst (.int 1)) (consL (bin subD (cst (.int 0)) (cst (.int 1))) nilL)))) nilL) (by simp [consL, nilL, frz2, R.bind]) e2
  have e3 : parS [7, 9] (consL (callR takenF (var 0) (consL (var 6) nilL)) (consL (callR pickF (var 0) (consL (frzE (szF (consL (cst (.int 1)) (consL (bin subD (cst (.int 0)) (cst (.int 1))) nilL)))) nilL)) nilL)) (webSl most strong m way m (some (.d (.int ((i + 1 : Nat) : Int)))) y v) (matS row m M)
     = .nx (webSl most strong m way m (some (.d (.int ((i + 1 : Nat) : Int)))) (some (.d (.int q))) (some (.d (.int p)))) (matS row2 m M) := by
    unfold webSl at k1 k2 ⊢
    simp only [List.tail_cons] at k1 k2
    unfold parS
    rw [show consL (callR takenF (var 0) (consL (var 6) nilL)) (consL (callR pickF (var 0) (consL (frzE (szF (consL (cst (.int 1)) (consL (bin subD (cst (.int 0)) (cst (.int 1))) nilL)))) nilL)) nilL) _ (matS row m M) = .ok [.d (.int q), .d (.int p)] (matS row2 m M) from by
      rw [consL_ok k1 (consL_ok k2 rfl)]]
    simp [thenS, setV]
  unfold seqS
  rw [e3]
  simp only []
  unfold webSl
  exact put2_ok hq hz
theorem callR_at {Fn : FnR} {fr : DE} {la : DL} {sl : Sl} {S S1 S2 : Sto} {k : Nat} {ds row row' : List PyData} {z : PyData} (h0 : fr sl S = .ok (.loc k) S1) (hl : la sl S1 = .ok (ds.map .d) S2) (hk : S2[k]? = some (.lst (row.map .d))) (e : Fn ds row = .ok z row') :
    callR Fn fr la sl S = .ok (.d z) (S2.set k (.lst (row'.map .d))) := by
  unfold callR
  rw [h0]
  simp only [R.bind]
  rw [hl]
  simp only [frzL_d, lstAt, hk, allD_map, e]
theorem lcGo_own {slot : Nat} {el : DE} {sl : Sl} {ob : PyData → Ob} : ∀ (ds : List PyData) (n : Nat) (S : Sto), (∀ d ∈ ds, ∀ S, el (sl.set slot (some (.d d))) S = .ok (.loc S.length) (S ++ [ob d])) → n + ds.length ≤ sizeLine →
    lcGo (.nm slot) yes el sl n ds S = .ok ((List.range' S.length ds.length).map .loc) (S ++ ds.map ob)
  | [], _, S, _, _ => by simp [lcGo]
  | d :: ds, n, S, h, hn => by
    simp only [List.length_cons] at hn
    have e1 := h d List.mem_cons_self S
    have ih := lcGo_own ds (n + 1) (S ++ [ob d]) (fun d hd => h d (List.mem_cons_of_mem _ hd)) (by omega)
    unfold lcGo
    simp only [setT, yes, nb, if_true, e1, show n < sizeLine by omega, ih, R.bind]
    simp [List.range'_succ]
theorem lcF_ok {own : List Nat} {it : IT} {tg : Tg} {tt : DB} {el : DE} {sl : Sl} {S S1 : Sto} {ds : List PyData} {r : R (List Val)} (h : it sl S = .ok ds S1) (h2 : lcGo tg tt el (wipeS sl own) 0 ds S1 = r) : lcF own it tg tt el sl S = r := by
  unfold lcF
  rw [h]
  exact h2
/-- n zeros -/
theorem rep0_ok {n : Nat} {sl : Sl} {S : Sto} {i : Nat} (hi : sl[i]? = some (some (.d (.int n)))) (hn : n ≤ 1000) : ownE (repF (frzE (szF (consL (cst (.int 0)) nilL))) (var i)) sl S = .ok (.loc S.length) (S ++ [.lst (linV n fun _ => 0)]) := by
  have h1 : (1 : Nat) ≤ sizeLine := sz_ge 1 (by decide)
  have e1 : frzE (szF (consL (cst (.int 0)) nilL)) sl S = .ok (.d (.list [.int 0])) S := by
    simp [frzE, szF, frzL, frz, consL, nilL, cst, R.bind, h1]
  have e2 : var i sl S = .ok (.d (.int n)) S := by unfold var; rw [hi]
  have h3 : ((n : Nat) : Int) < 2 ^ 63 := Int.lt_trans (lt62 (by omega)) (by decide +kernel)
  have h4 : -(2 ^ 63) ≤ ((n : Nat) : Int) := Int.le_trans (show -(2 ^ 63) ≤ -(2 ^ 62 : Int) by decide +kernel) ge62
  have h5 : n ≤ sizeLine := sz_ge n (by omega)
  have e3 : repF (frzE (szF (consL (cst (.int 0)) nilL))) (var i) sl S = .ok (linV n fun _ => 0) S := by
    unfold repF
    rw [e1]
    simp only [R.bind]
    rw [e2]
    simp only [dat]
    rw [decide_eq_true h3, decide_eq_true h4, if_pos (by simpa using h5)]
    congr 1
    simp [linV, List.map_const', List.flatten_replicate_singleton]
  unfold ownE
  rw [e3]
  rfl
def tupOf : PyData → PyData
  | .list ds => .tuple ds
  | d => d
theorem tup_map (n : Nat) (f : Nat → List PyData) : ((List.range n).map fun i => PyData.list (f i)).map tupOf = (List.range n).map fun i => .tuple (f i) := by
  rw [List.map_map]
  rfl
theorem web_ok {row : List PyData} {most strong : Int} (hr : RowOk row) (hm : 1 ≤ most) (hm2 : most ≤ 1000) (h1 : 1 ≤ strong) (h2 : strong ≤ 1000) :
    ∃ (n : Nat) (M : Nat → Nat → Int) (row' : List PyData), webF [.int most, .int strong] row = .ok (webD n M) row' ∧ RowOk row' ∧ 1 ≤ n ∧ (n : Int) ≤ most ∧ Skew strong M := by
  obtain ⟨r, row1, e1, ok1, r0, r1⟩ := taken_ok hr (many := most) (by omega) (Nat.lt_trans (log_small (by omega) (by omega)) (by decide))
  obtain ⟨way, row2, e2, ok2, w0, w1⟩ := taken_ok ok1 (many := 5) (by omega) (by decide +kernel)
  obtain ⟨n, hn⟩ : ∃ n : Nat, 1 + r = n := ⟨(1 + r).toNat, by omega⟩
  have hn1 : 1 ≤ n := by omega
  have hn2 : n ≤ 1000 := by omega
  let sl0 : Sl := slots 11 [.loc 0, .d (.int most), .d (.int strong)]
  let sl1 : Sl := [some (.loc 0), some (.d (.int most)), some (.d (.int strong)), some (.d (.int n)), some (.d (.int way)), none, none, none, none, none, none]
  have p1 : parS [3, 4] (consL (bin addD (cst (.int 1)) (callR takenF (var 0) (consL (var 1) nilL))) (consL (callR takenF (var 0) (consL (cst (.int 5)) nilL)) nilL)) sl0 [.lst (row.map .d)] = .nx sl1 [.lst (row2.map .d)] := by
    have c1 : callR takenF (var 0) (consL (var 1) nilL) sl0 [.lst (row.map .d)] = .ok (.d (.int r)) [.lst (row1.map .d)] := callR_at (k := 0) (S1 := [.lst (row.map .d)]) (S2 := [.lst (row.map .d)]) (ds := [.int most]) (row := row) rfl rfl rfl e1
    have c2 : callR takenF (var 0) (consL (cst (.int 5)) nilL) sl0 [.lst (row1.map .d)] = .ok (.d (.int way)) [.lst (row2.map .d)] := callR_at (k := 0) (S1 := [.lst (row1.map .d)]) (S2 := [.lst (row1.map .d)]) (ds := [.int 5]) (row := row1) rfl rfl rfl e2
    have c3 : bin addD (cst (.int 1)) (callR takenF (var 0) (consL (var 1) nilL)) sl0 [.lst (row.map .d)] = .ok (.d (.int n)) [.lst (row1.map .d)] := by
      unfold bin
      simp only [cst, R.bind]
      rw [c1]
      simp only [two, dat, addD, okD, hn]
    unfold parS
    rw [consL_ok c3 (consL_ok c2 rfl)]
    rfl
  let sl2 : Sl := webSl most strong n way n none none none
  have p2 : asgS 5 (ownE (lcF [8] (rng1 (consL (var 3) nilL)) (.nm 8) yes (ownE (repF (frzE (szF (consL (cst (.int 0)) nilL))) (var 3))))) sl1 [.lst (row2.map .d)] = .nx sl2 (matS row2 n fun _ _ => 0) := by
    have c1 : rng1 (consL (var 3) nilL) sl1 [.lst (row2.map .d)] = .ok (rangeL 0 n) [.lst (row2.map .d)] := rng1_ok rfl (by omega)
    have c2 := lcGo_own (slot := 8) (el := ownE (repF (frzE (szF (consL (cst (.int 0)) nilL))) (var 3))) (sl := wipeS sl1 [8]) (ob := fun _ => .lst (linV n fun _ => 0)) (rangeL 0 n) 0 [.lst (row2.map .d)] (fun d hd S => rep0_ok rfl hn2) (by rw [rangeL_length, Nat.zero_add]; exact sz_ge n hn2)
    have c3 := lcF_ok (own := [8]) c1 c2
    have c4 := z_asg (i := 5) (z_own c3)
    rw [c4]
    have q1 : [Ob.lst (row2.map .d)] ++ (rangeL 0 n).map (fun _ => Ob.lst (linV n fun _ => 0)) ++ [Ob.lst ((List.range' [Ob.lst (row2.map .d)].length (rangeL 0 n).length).map .loc)] = matS row2 n fun _ _ => 0 := by
      unfold matS
      rw [rangeL_length]
      simp [rangeL, List.range'_eq_map_range, Function.comp_def, Nat.add_comm]
    have q2 : ([Ob.lst (row2.map .d)] ++ (rangeL 0 n).map (fun _ => Ob.lst (linV n fun _ => 0))).length = n + 1 := by
      simp [rangeL_length]
    rw [q1, q2]
    rfl
  have hP0 : WebP most strong way n none sl2 (matS row2 n fun _ _ => 0) := ⟨row2, _, none, none, rfl, rfl, ok2, Skew.zero (by omega)⟩
  obtain ⟨sl3, S3, p3, z3, hP3⟩ : ∃ sl3 S3, forS (rng2 (consL (cst (.int 1)) (consL (var 3) nilL))) (.nm 6) webLoop1 sl2 (matS row2 n fun _ _ => 0) = .nx sl3 S3 ∧ ∃ z, WebP most strong way n z sl3 S3 := by
    unfold forS
    rw [rng2_ok (i := 1) (k := n) rfl (by omega) (by omega)]
    simp only [thenS]
    refine fgo_range (P := fun _ sl S => ∃ z, WebP most strong way n z sl S) (fun i sl S hi hp => ?_) ⟨none, hP0⟩
    obtain ⟨z, row, M, y, v, rfl, rfl, hr, hs⟩ := hp
    have es : (webSl most strong n way n z y v).set 6 (some (.d (.int (((1 : Nat) : Int) + (i : Nat))))) = webSl most strong n way n (some (.d (.int ((i + 1 : Nat) : Int)))) y v := by
      rw [show ((1 : Nat) : Int) + (i : Nat) = ((i + 1 : Nat) : Int) by omega]; rfl
    rw [es]
    obtain ⟨sl', S', e, p⟩ := loop1_ok (most := most) (strong := strong) (way := way) (m := n) (z := i + 1) (by omega) hn2 h1 h2 ⟨row, M, y, v, rfl, rfl, hr, hs⟩
    exact ⟨sl', S', e, _, p⟩
  obtain ⟨sl4, S4, p4, z4, hP4⟩ : ∃ sl4 S4, ifS (asB (bin eqD (var 4) (cst (.int 4)))) webLoop2 nilS sl3 S3 = .nx sl4 S4 ∧ ∃ z, WebP most strong way n z sl4 S4 := by
    have c : asB (bin eqD (var 4) (cst (.int 4))) sl3 S3 = .ok (decide (way = 4)) S3 := by
      obtain ⟨row, M, y, v, rfl, rfl, hr, hs⟩ := hP3
      simp [asB, bin, var, cst, two, dat, eqD_int, okD, R.bind, webSl]
    unfold ifS
    rw [c]
    simp only [thenS]
    by_cases w : way = 4
    · obtain ⟨z, sl4, S4, e, p⟩ := loop2_ok (most := most) (way := way) hn2 h1 hP3
      exact ⟨sl4, S4, by simpa [w] using e, z, p⟩
    · exact ⟨sl3, S3, by simp [w, nilS], z3, hP3⟩
  obtain ⟨row5, M, y5, v5, rfl, rfl, ok5, sk⟩ := hP4
  refine ⟨n, M, row5, ?_, ok5, hn1, by omega, sk⟩
  obtain ⟨S5, f1, f2⟩ := frz_mat (row := row5) (n := n) (M := M)
  have p5 : rtS (blt tupD (consL (frzE (lcF [10] (seqI (var 5)) (.nm 10) yes (blt tupD (consL (var 10) nilL)))) nilL)) (webSl most strong n way n z4 y5 v5) (matS row5 n M) = .rt (webD n M) S5 := by
    have c1 : seqI (var 5) (webSl most strong n way n z4 y5 v5) (matS row5 n M) = .ok ((List.range n).map fun i => .list (linD n (M i))) S5 := by
      simp [seqI, var, webSl, R.bind, f1]
    have c2 := lcGo_yes (slot := 10) (el := blt tupD (consL (var 10) nilL)) (sl := wipeS (webSl most strong n way n z4 y5 v5) [10]) (S := S5) (f := tupOf) ((List.range n).map fun i => .list (linD n (M i))) 0 (fun d hd => by
      obtain ⟨i, _, rfl⟩ := List.mem_map.mp hd
      rfl) (by rw [List.length_map, List.length_range, Nat.zero_add]; exact sz_ge n hn2)
    have c3 := lcF_ok (own := [10]) c1 c2
    rw [tup_map] at c3
    exact z_rt (z_blt (z_consD (z_frzE c3) z_nilD) rfl)
  exact z_runR rfl (z_seq p1 (z_seq p2 (z_seq p3 (z_seq p4 p5)))) (z_outR f2)
end DV
set_option Elab.async false
set_option linter.all false
set_option maxRecDepth 100000
set_option maxHeartbeats 4000000
namespace DV
open PySem
theorem allBD_true {ds : List PyData} (h : ∀ d ∈ ds, d = .bool true) : allBD [.list ds] = some (.bool true) := by
  have e : bools ds = some (List.replicate ds.length true) := by
    induction ds with
    | nil => rfl
    | cons d ds ih =>
      have hd := h d List.mem_cons_self
      subst hd
      simp only [bools, ih fun d hd => h d (List.mem_cons_of_mem _ hd), Option.map_some, List.length_cons, List.replicate_succ]
  show (bools ds).map _ = _
  rw [e]
  simp
theorem lc2Go_yes {s1 s2 : Nat} {it1 : IT} {el : DE} {vs1 : List Nat} {sl : Sl} {S : Sto} {es : PyData → List PyData} {f : PyData → PyData → PyData} {c : Nat} : ∀ (ds : List PyData) (n : Nat), (∀ d ∈ ds, it1 (sl.set s1 (some (.d d))) S = .ok (es d) S) → (∀ d ∈ ds, (es d).length ≤ c) →
    (∀ d ∈ ds, ∀ e ∈ es d, el ((wipeS (sl.set s1 (some (.d d))) vs1).set s2 (some (.d e))) S = .ok (.d (f d e)) S) → n + ds.length * c ≤ sizeLine →
    lc2Go (.nm s1) yes it1 (.nm s2) yes el vs1 sl n ds S = .ok ((ds.flatMap fun d => (es d).map (f d)).map .d) S
  | [], _, _, _, _, _ => rfl
  | d :: ds, n, h1, hc, h2, h3 => by
    have i1 := h1 d List.mem_cons_self
    have ic := hc d List.mem_cons_self
    have hmul : (d :: ds).length * c = ds.length * c + c := by rw [List.length_cons, Nat.add_mul, Nat.one_mul]
    rw [hmul] at h3
    have i2 := lcGo_yes (slot := s2) (el := el) (sl := wipeS (sl.set s1 (some (.d d))) vs1) (S := S) (f := f d) (es d) n (h2 d List.mem_cons_self) (by omega)
    have ih := lc2Go_yes ds (n + (es d).length) (fun d hd => h1 d (List.mem_cons_of_mem _ hd)) (fun d hd => hc d (List.mem_cons_of_mem _ hd)) (fun d hd => h2 d (List.mem_cons_of_mem _ hd)) (by omega)
    unfold lc2Go
    simp only [setT, yes, nb, if_true, i1]
    rw [show lcGo (.nm s2) yes el (wipeS (sl.set s1 (some (.d d))) vs1) n (es d) S = _ from i2]
    simp only [R.bind, List.length_map]
    rw [show lc2Go (.nm s1) yes it1 (.nm s2) yes el vs1 sl (n + (es d).length) ds S = _ from ih]
    simp
def isIntD : DS := (rtS (andV (isiE "int" (var 0)) (notV (isiE "bool" (var 0)))))
def isIntF : FnP := runP 1 1 isIntD
theorem isInt_int (i : Int) : isIntF [.int i] = .ok (.bool true) :=
  z_runP rfl (z_rt (z_andVT (z_un (z_var rfl) (by rfl)) (z_notV (z_un (z_var rfl) (by rfl))))) rfl
def isFromD : DS := (rtS (andV (callP isIntF (consL (var 0) nilL)) (chain leI leI (var 1) (var 0) (var 2))))
def isFromF : FnP := runP 3 3 isFromD
theorem isFrom_int (v lo hi : Int) : isFromF [.int v, .int lo, .int hi] = .ok (.bool (decide (lo ≤ v ∧ v ≤ hi))) := by
  refine z_runP rfl (z_rt (S1 := []) (z_andVT (z_callP (z_consD (z_var rfl) z_nilD) (isInt_int v)) ?_)) rfl
  by_cases h : lo ≤ v
  · have e : decide (lo ≤ v ∧ v ≤ hi) = decide (v ≤ hi) := by simp [h]
    rw [e]
    exact z_chain (z_var rfl) (z_var rfl) (by simp [leI, cmpI, h]) (z_var rfl) (by simp [leI, cmpI])
  · have e : decide (lo ≤ v ∧ v ≤ hi) = false := by simp [h]
    rw [e]
    exact z_chainF (z_var rfl) (z_var rfl) (by simp [leI, cmpI, h])
def isLineD : DS :=
  (seqS (ifS (orB (notB (asB (isiE "tuple" (var 1)))) (asB (bin neD (blt lenD (consL (var 1) nilL)) (var 0)))) (rtS (cst (.bool false))) nilS)
  (rtS (blt allBD (consL (frzE (lcF [2] (seqI (var 1)) (.nm 2) yes (callP isFromF (consL (var 2) (consL (un negD (cst (.int 1000))) (consL (cst (.int 1000)) nilL)))))) nilL))))
def isLineF : FnP := runP 3 2 isLineD
theorem neD_int (i j : Int) : neD (.int i) (.int j) = some (.bool (!decide (i = j))) := by
  unfold neD
  simp [SeqAt.shaped, PyData.canLay0, PyData.depth, PyData.eqv]
  rfl
theorem isLine_ok {n : Nat} {f : Nat → Int} (hn : n ≤ 1000) (h : ∀ j, j < n → -1000 ≤ f j ∧ f j ≤ 1000) : isLineF [.int n, .tuple (linD n f)] = .ok (.bool true) := by
  have hl : (linD n f).length = n := by simp [linD]
  refine z_runP rfl (z_seq (z_ifF (z_orF (z_notT (z_asB (z_un (z_var rfl) (by rfl)))) (z_asB (z_bin (d1 := .int n) (d2 := .int n) (z_blt (z_consD (z_var rfl) z_nilD) ?_) (z_var rfl) (by rw [neD_int]; simp)))) rfl) (z_rt (z_blt (z_consD (z_frzE (z_lc (z_seqT (z_var rfl)) (lcGo_yes (f := fun _ => .bool true) _ 0 (fun d hd => ?_) ?_))) z_nilD) (allBD_true ?_)))) rfl
  · show some (PyData.int (linD n f).length) = _
    rw [hl]
  · obtain ⟨j, hj, rfl⟩ := List.mem_map.mp hd
    have hj' := h j (List.mem_range.mp hj)
    refine z_callP (ds := [.int (f j), .int (-1000), .int 1000]) (z_consD (z_var rfl) (z_consD (z_un rfl rfl) (z_consD rfl z_nilD))) ?_
    rw [isFrom_int, decide_eq_true hj']
  · rw [hl]; exact sz_ge _ (by omega)
  · intro d hd
    obtain ⟨_, _, rfl⟩ := List.mem_map.mp hd
    rfl
def isWebD : DS :=
  (seqS (ifS (orB (notB (asB (isiE "tuple" (var 0)))) (notB (asB (chain leI leI (cst (.int 1)) (blt lenD (consL (var 0) nilL)) (cst (.int 6)))))) (rtS (cst (.bool false))) nilS)
  (seqS (asgS 1 (blt lenD (consL (var 0) nilL)))
  (seqS (ifS (notB (asB (blt allBD (consL (frzE (lcF [4] (seqI (var 0)) (.nm 4) yes (callP isLineF (consL (var 1) (consL (var 4) nilL))))) nilL)))) (rtS (cst (.bool false))) nilS)
  (rtS (blt allBD (consL (frzE (lc2F [2, 3] [3] (rng1 (consL (var 1) nilL)) (.nm 2) yes (rng1 (consL (var 1) nilL)) (.nm 3) yes (bin eqD (ixE (ixE (var 0) (var 2)) (var 3)) (un negD (ixE (ixE (var 0) (var 3)) (var 2)))))) nilL))))))
def isWebF : FnP := runP 5 1 isWebD
theorem web_len {n : Nat} {M : Nat → Nat → Int} : ((List.range n).map fun i => PyData.tuple ((List.range n).map fun j => .int (M i j))).length = n := by simp
theorem atI_web {n i : Nat} {M : Nat → Nat → Int} {S : Sto} (hi : i < n) : ixV S (.d (webD n M)) (.d (.int i)) = .ok (.d (.tuple (linD n (M i)))) S := by
  show okD (L2.atI _ _) S = _
  rw [atI_map _ hi]
  rfl
theorem atI_lin {n j : Nat} {f : Nat → Int} {S : Sto} (hj : j < n) : ixV S (.d (.tuple (linD n f))) (.d (.int j)) = .ok (.d (.int (f j))) S := by
  show okD (L2.atI (linD n f) _) S = _
  unfold linD
  rw [atI_map _ hj]
  rfl
theorem web_at {n i j : Nat} {M : Nat → Nat → Int} {fa fb fc : DE} {sl : Sl} {S : Sto} (h : fa sl S = .ok (.d (webD n M)) S) (h2 : fb sl S = .ok (.d (.int i)) S) (h3 : fc sl S = .ok (.d (.int j)) S) (hi : i < n) (hj : j < n) : ixE (ixE fa fb) fc sl S = .ok (.d (.int (M i j))) S :=
  z_ix (z_ix h h2 (atI_web hi)) h3 (atI_lin hj)
theorem mem_rangeL {n : Nat} {d : PyData} (h : d ∈ rangeL 0 n) : ∃ i : Nat, i < n ∧ d = .int i := by
  unfold rangeL at h
  obtain ⟨i, hi, rfl⟩ := List.mem_map.mp h
  exact ⟨i, List.mem_range.mp hi, by rw [Int.zero_add]⟩
theorem isWeb_ok {n : Nat} {M : Nat → Nat → Int} {b : Int} (h1 : 1 ≤ n) (h6 : n ≤ 6) (hb : b ≤ 1000) (hs : Skew b M) : isWebF [webD n M] = .ok (.bool true) := by
  have el : ∀ (sl : Sl) (S : Sto), sl[0]? = some (some (.d (webD n M))) → blt lenD (consL (var 0) nilL) sl S = .ok (.d (.int n)) S := fun sl S h => z_blt (ds := [webD n M]) (z_consD (z_var h) z_nilD) (by show some (PyData.int _) = _; rw [web_len])
  refine z_runP rfl (z_seq (z_ifF (z_orF (z_notT (z_asB (z_un (z_var rfl) (by rfl)))) (z_notT (z_asB (z_chain rfl (el _ _ rfl) (d := .bool true) ?_ rfl ?_)))) rfl) (z_seq (z_asg (el _ _ rfl)) (z_seq (z_ifF (z_notT (z_asB (z_blt (z_consD (z_frzE (z_lc (z_seqT (ds := (List.range n).map fun i => PyData.tuple (linD n (M i))) (z_var rfl)) (lcGo_yes (f := fun _ => .bool true) _ 0 (fun d hd => ?_) ?_))) z_nilD) (allBD_true ?_)))) rfl)
    (z_rt (S1 := []) (z_blt (z_consD (z_frzE ?_) z_nilD) (allBD_true (ds := (rangeL 0 n).flatMap fun d => (rangeL 0 n).map fun e => .bool true) ?_)))))) rfl
  · have : (1 : Int) ≤ n := by omega
    simp [leI, cmpI, this]
  · have : (n : Int) ≤ 6 := by omega
    simp [leI, cmpI, this]
  · obtain ⟨i, hi, rfl⟩ := List.mem_map.mp hd
    refine z_callP (ds := [.int n, .tuple (linD n (M i))]) (z_consD (z_var rfl) (z_consD (z_var rfl) z_nilD)) (isLine_ok (by omega) fun j hj => ?_)
    have := hs i j
    omega
  · simp only [List.length_map, List.length_range]; exact sz_ge _ (by omega)
  · intro d hd
    obtain ⟨_, _, rfl⟩ := List.mem_map.mp hd
    rfl
  · show (rng1 (consL (var 1) nilL) _ _).bind _ = _
    rw [rng1_ok (k := n) rfl (by omega)]
    refine lc2Go_yes (c := n) (es := fun _ => rangeL 0 n) (f := fun _ _ => .bool true) (rangeL 0 n) 0 (fun d hd => ?_) (fun d hd => ?_) (fun d hd e he => ?_) ?_
    · exact rng1_ok rfl (by omega)
    · exact Nat.le_of_eq (rangeL_length _ _)
    · obtain ⟨i, hi, rfl⟩ := mem_rangeL hd
      obtain ⟨j, hj, rfl⟩ := mem_rangeL he
      refine z_bin (web_at (M := M) (z_var rfl) (z_var rfl) (z_var rfl) hi hj) (z_un (web_at (M := M) (z_var rfl) (z_var rfl) (z_var rfl) hj hi) rfl) ?_
      rw [eqD_int]
      have := hs i j
      simp
      omega
    · rw [rangeL_length]
      have : n * n ≤ 6 * 6 := Nat.mul_le_mul h6 h6
      exact sz_ge _ (by omega)
  · intro d hd
    obtain ⟨_, _, h⟩ := List.mem_flatMap.mp hd
    obtain ⟨_, _, rfl⟩ := List.mem_map.mp h
    rfl
def needWebD : DS := (ifS (notB (asB (callP isWebF (consL (var 0) nilL)))) (raS "BadWeb") nilS)
def needWebF : FnP := runP 1 1 needWebD
theorem needWeb_ok {n : Nat} {M : Nat → Nat → Int} {b : Int} (h1 : 1 ≤ n) (h6 : n ≤ 6) (hb : b ≤ 1000) (hs : Skew b M) : needWebF [webD n M] = .ok .none :=
  z_runP rfl (z_ifF (z_notT (z_asB (z_callP (ds := [webD n M]) (z_consD (z_var rfl) z_nilD) (isWeb_ok h1 h6 hb hs)))) rfl) rfl
def needNodeD : DS := (ifS (notB (asB (callP isFromF (consL (var 1) (consL (cst (.int 0)) (consL (bin subD (blt lenD (consL (var 0) nilL)) (cst (.int 1))) nilL)))))) (raS "NoNode") nilS)
def needNodeF : FnP := runP 2 2 needNodeD
theorem needNode_ok {n x : Nat} {M : Nat → Nat → Int} (hx : x < n) : needNodeF [webD n M, .int x] = .ok .none := by
  refine z_runP rfl (z_ifF (z_notT (z_asB (z_callP (d := .bool true) (ds := [.int x, .int 0, .int ((n : Int) - 1)]) (z_consD (z_var rfl) (z_consD rfl (z_consD (z_bin (d1 := .int n) (z_blt (ds := [webD n M]) (z_consD (z_var rfl) z_nilD) (by show some (PyData.int _) = _; rw [web_len])) rfl rfl) z_nilD))) ?_))) rfl) rfl
  rw [isFrom_int]
  congr 2
  simp
  omega
end DV
set_option Elab.async false
set_option linter.all false
set_option maxRecDepth 100000
set_option maxHeartbeats 4000000
namespace DV
open PySem
/-- a table of zeros -/
theorem zeros_ok {own : List Nat} {slot i k : Nat} {row : List PyData} {n : Nat} {sl : Sl} (hk : sl[k]? = some (some (.d (.int n)))) (hi : ((wipeS sl own).set slot none)[i]? = some (some (.d (.int n))) ∧ slot ≠ i) (hn : n ≤ 1000) :
    ownE (lcF own (rng1 (consL (var k) nilL)) (.nm slot) yes (ownE (repF (frzE (szF (consL (cst (.int 0)) nilL))) (var i)))) sl [.lst (row.map .d)] = .ok (.loc (n + 1)) (matS row n fun _ _ => 0) := by
  have c1 : rng1 (consL (var k) nilL) sl [.lst (row.map .d)] = .ok (rangeL 0 n) [.lst (row.map .d)] := rng1_ok (z_cons (z_var hk) z_nil) (by omega)
  have c2 := lcGo_own (slot := slot) (el := ownE (repF (frzE (szF (consL (cst (.int 0)) nilL))) (var i))) (sl := wipeS sl own) (ob := fun _ => .lst (linV n fun _ => 0)) (rangeL 0 n) 0 [.lst (row.map .d)] (fun d hd S => rep0_ok (by
    have h := hi.1
    rw [List.getElem?_set_ne hi.2] at h ⊢
    exact h) hn) (by rw [rangeL_length, Nat.zero_add]; exact sz_ge n hn)
  rw [z_own (z_lc c1 c2)]
  have q1 : [Ob.lst (row.map .d)] ++ (rangeL 0 n).map (fun _ => Ob.lst (linV n fun _ => 0)) ++ [Ob.lst ((List.range' [Ob.lst (row.map .d)].length (rangeL 0 n).length).map .loc)] = matS row n fun _ _ => 0 := by
    unfold matS
    rw [rangeL_length]
    simp [rangeL, List.range'_eq_map_range, Function.comp_def, Nat.add_comm]
  have q2 : ([Ob.lst (row.map .d)] ++ (rangeL 0 n).map (fun _ => Ob.lst (linV n fun _ => 0))).length = n + 1 := by
    simp [rangeL_length]
  rw [q1, q2]
end DV
set_option Elab.async false
set_option linter.all false
set_option maxRecDepth 100000
set_option maxHeartbeats 4000000
namespace DV
open PySem
def matP (pre : Sto) (n : Nat) (M : Nat → Nat → Int) : Sto := pre ++ (((List.range n).map fun i => Ob.lst (linV n (M i))) ++ [.lst ((List.range n).map fun i => .loc (pre.length + i))])
section
variable {pre : Sto} {n i j : Nat} {M : Nat → Nat → Int} {v : Int}
theorem matP_i (h : i < n) : (matP pre n M)[pre.length + i]? = some (.lst (linV n (M i))) := by
  unfold matP
  rw [List.getElem?_append_right (by omega), Nat.add_sub_cancel_left, List.getElem?_append_left (by simpa using h)]
  simp [h]
theorem matP_n : (matP pre n M)[pre.length + n]? = some (.lst ((List.range n).map fun i => .loc (pre.length + i))) := by
  unfold matP
  rw [List.getElem?_append_right (by omega), Nat.add_sub_cancel_left, List.getElem?_append_right (by simp)]
  simp
theorem linV_set {f : Nat → Int} : (linV n f).set j (.d (.int v)) = linV n fun q => if q = j then v else f q := by
  unfold linV
  rw [map_set]
  apply List.map_congr_left
  intro q _
  by_cases e : q = j <;> simp [e]
theorem lines_set (h : i < n) : ((List.range n).map fun k => Ob.lst (linV n (M k))).set i (.lst (linV n fun q => if q = j then v else M i q)) = (List.range n).map fun k => Ob.lst (linV n (upd2 M i j v k)) := by
  rw [map_set]
  apply List.map_congr_left
  intro k _
  by_cases e : k = i
  · subst e
    rw [if_pos rfl]
    congr 2
    funext q
    unfold upd2
    by_cases e2 : q = j <;> simp [e2]
  · rw [if_neg e]
    congr 2
    funext q
    simp [upd2, e]
theorem matP_set (h : i < n) : (matP pre n M).set (pre.length + i) (.lst ((linV n (M i)).set j (.d (.int v)))) = matP pre n (upd2 M i j v) := by
  unfold matP
  rw [linV_set, List.set_append_right _ _ (by omega), Nat.add_sub_cancel_left, List.set_append_left _ _ (by simpa using h), lines_set h]
theorem matP_ix (h : i < n) : ixV (matP pre n M) (.loc (pre.length + n)) (.d (.int i)) = .ok (.loc (pre.length + i)) (matP pre n M) := by
  unfold ixV
  simp only [matP_n, atI_map _ h]
theorem matP_put (hi : i < n) (hj : j < n) : putV (matP pre n M) (.loc (pre.length + i)) (.d (.int j)) (.d (.int v)) = some (matP pre n (upd2 M i j v)) := by
  unfold putV lstAt
  simp only [matP_i hi, lin_len, ixN_of hj, matP_set hi]
theorem matP_get (hi : i < n) (hj : j < n) : ixV (matP pre n M) (.loc (pre.length + i)) (.d (.int j)) = .ok (.d (.int (M i j))) (matP pre n M) := by
  unfold ixV
  simp only [matP_i hi]
  unfold linV
  rw [atI_map _ hj]
/-- lists of lists in the store, given away -/
def matQ (pre : Sto) (n : Nat) (M : Nat → Nat → Int) (k : Nat) : Sto := pre ++ (((List.range n).map fun i => if i < k then Ob.frz (linD n (M i)) else Ob.lst (linV n (M i))) ++ [.lst ((List.range n).map fun i => .loc (pre.length + i))])
theorem matQ_0 : matQ pre n M 0 = matP pre n M := by simp [matQ, matP]
theorem matQ_i {k : Nat} (h : i < n) : (matQ pre n M k)[pre.length + i]? = some (if i < k then Ob.frz (linD n (M i)) else Ob.lst (linV n (M i))) := by
  unfold matQ
  rw [List.getElem?_append_right (by omega), Nat.add_sub_cancel_left, List.getElem?_append_left (by simpa using h)]
  simp [h]
theorem matQ_n {k : Nat} : (matQ pre n M k)[pre.length + n]? = some (.lst ((List.range n).map fun i => .loc (pre.length + i))) := by
  unfold matQ
  rw [List.getElem?_append_right (by omega), Nat.add_sub_cancel_left, List.getElem?_append_right (by simp)]
  simp
theorem matQ_line (h : i < n) : frzS 3 (matQ pre n M i) (.loc (pre.length + i)) = some (matQ pre n M (i + 1)) := by
  have e : (matQ pre n M i)[pre.length + i]? = some (.lst ((linD n (M i)).map .d)) := by rw [matQ_i h, if_neg (Nat.lt_irrefl i), linV_eq]
  rw [frzS_line e]
  congr 1
  unfold matQ
  rw [List.set_append_right _ _ (by omega), Nat.add_sub_cancel_left, List.set_append_left _ _ (by simpa using h), map_set]
  congr 2
  apply List.map_congr_left
  intro q hq
  by_cases e1 : q = i
  · subst e1; simp
  · rw [if_neg e1]
    by_cases e2 : q < i
    · rw [if_pos e2, if_pos (by omega)]
    · rw [if_neg e2, if_neg (by omega)]
theorem matQ_lines : ∀ (k i : Nat), i + k ≤ n → eachS (frzS 3) (matQ pre n M i) ((List.range' i k).map fun i => .loc (pre.length + i)) = some (matQ pre n M (i + k))
  | 0, i, _ => rfl
  | k + 1, i, h => by
    rw [List.range'_succ, List.map_cons]
    have e1 := matQ_line (pre := pre) (M := M) (show i < n by omega)
    have e2 := matQ_lines k (i + 1) (by omega)
    unfold eachS
    simp only [e1, e2]
    rw [show i + 1 + k = i + (k + 1) by omega]
theorem frz_matP : ∃ S', frz (matP pre n M) (.loc (pre.length + n)) = some (.list ((List.range n).map fun i => .list (linD n (M i))), S') ∧ ∀ q, q < pre.length → S'[q]? = pre[q]? := by
  have e1 := matQ_lines (pre := pre) (M := M) (n := n) n 0 (by omega)
  rw [← List.range_eq_range', matQ_0, Nat.zero_add] at e1
  have e2 : fzds (matQ pre n M n) ((List.range n).map fun i => .loc (pre.length + i)) = some ((List.range n).map fun i => .list (linD n (M i))) := by
    apply fzds_map
    intro i hi
    have hi' : i < n := List.mem_range.mp hi
    simp only [fzd, matQ_i hi', if_pos hi']
  refine ⟨(matQ pre n M n).set (pre.length + n) (.frz ((List.range n).map fun i => .list (linD n (M i)))), ?_, ?_⟩
  · unfold frz frzS
    simp only [matP_n, e1, matQ_n, e2]
    have hl : pre.length + n < (matQ pre n M n).length := by simp [matQ]
    simp [fzd, hl]
  · intro q hq
    rw [List.getElem?_set_ne (by omega)]
    unfold matQ
    rw [List.getElem?_append_left hq]
end
end DV
set_option Elab.async false
set_option linter.all false
set_option maxRecDepth 100000
set_option maxHeartbeats 4000000
namespace DV
open PySem
theorem matP_ext {pre : Sto} {n : Nat} {M M' : Nat → Nat → Int} (h : ∀ a b, a < n → b < n → M a b = M' a b) : matP pre n M = matP pre n M' := by
  unfold matP
  congr 2
  apply List.map_congr_left
  intro a ha
  congr 1
  unfold linV
  apply List.map_congr_left
  intro b hb
  rw [h a b (List.mem_range.mp ha) (List.mem_range.mp hb)]
theorem webD_ext {n : Nat} {M M' : Nat → Nat → Int} (h : ∀ a b, a < n → b < n → M a b = M' a b) : webD n M = webD n M' := by
  unfold webD
  congr 1
  apply List.map_congr_left
  intro a ha
  congr 1
  apply List.map_congr_left
  intro b hb
  rw [h a b (List.mem_range.mp ha) (List.mem_range.mp hb)]
def obOf : PyData → Ob
  | .tuple ds => .lst (ds.map .d)
  | _ => .lst []
/-- the web's lines copied -/
theorem copy_ok {own : List Nat} {slot k : Nat} {n : Nat} {M : Nat → Nat → Int} {sl : Sl} {S : Sto} (hk : sl[k]? = some (some (.d (webD n M)))) (hsl : slot < (wipeS sl own).length) (hn : n ≤ 1000) :
    ownE (lcF own (seqI (var k)) (.nm slot) yes (ownE (lstF (var slot)))) sl S = .ok (.loc (S.length + n)) (matP S n M) := by
  have c1 : seqI (var k) sl S = .ok ((List.range n).map fun i => .tuple (linD n (M i))) S := z_seqT (z_var hk)
  have c2 := lcGo_own (slot := slot) (el := ownE (lstF (var slot))) (sl := wipeS sl own) (ob := obOf) ((List.range n).map fun i => .tuple (linD n (M i))) 0 S (fun d hd S => by
    obtain ⟨i, _, rfl⟩ := List.mem_map.mp hd
    exact z_own (z_lst1 (z_var (by rw [List.getElem?_set_self hsl])))) (by simp only [List.length_map, List.length_range]; exact sz_ge _ (by omega))
  rw [z_own (z_lc c1 c2)]
  have q1 : (S ++ ((List.range n).map fun i => PyData.tuple (linD n (M i))).map obOf).length = S.length + n := by simp
  rw [q1]
  congr 1
  unfold matP
  rw [List.map_map]
  simp [Function.comp_def, linV_eq, List.range'_eq_map_range, List.map_map, obOf]
def thr (M : Nat → Nat → Int) (x a b : Nat) : Int := if 0 < M a x ∧ 0 < M x b then M a x * M x b else 0
def turnM (M : Nat → Nat → Int) (x : Nat) : Nat → Nat → Int := fun a b => if a = x ∨ b = x then 0 - M a b else M a b + thr M x a b - thr M x b a
def turnT (M : Nat → Nat → Int) (x i j : Nat) : Nat → Nat → Int := fun a b => M a b + (if a < i ∨ (a = i ∧ b < j) then thr M x a b else 0) - (if b < i ∨ (b = i ∧ a < j) then thr M x b a else 0)
def turnB : DS := (ifS (andB (asB (bin gtI (ixE (ixE (var 0) (var 4)) (var 1)) (cst (.int 0)))) (asB (bin gtI (ixE (ixE (var 0) (var 1)) (var 5)) (cst (.int 0))))) (seqS (asgS 7 (bin mulD (ixE (ixE (var 0) (var 4)) (var 1)) (ixE (ixE (var 0) (var 1)) (var 5))))
  (put2S (tupE (consL (bin addD (ixE (ixE (var 3) (var 4)) (var 5)) (var 7)) (consL (bin subD (ixE (ixE (var 3) (var 5)) (var 4)) (var 7)) nilL))) (ixE (var 3) (var 4)) (var 5) (ixE (var 3) (var 5)) (var 4))) nilS)
def turnC : DS := (put2S (tupE (consL (bin subD (cst (.int 0)) (ixE (ixE (var 0) (var 1)) (var 4))) (consL (bin subD (cst (.int 0)) (ixE (ixE (var 0) (var 4)) (var 1))) nilL))) (ixE (var 3) (var 1)) (var 4) (ixE (var 3) (var 4)) (var 1))
def turnD : DS :=
  (seqS (parS [2, 3] (consL (blt lenD (consL (var 0) nilL)) (consL (ownE (lcF [6] (seqI (var 0)) (.nm 6) yes (ownE (lstF (var 6))))) nilL)))
  (seqS (forS (rng1 (consL (var 2) nilL)) (.nm 4) (forS (rng1 (consL (var 2) nilL)) (.nm 5) turnB))
  (seqS (forS (rng1 (consL (var 2) nilL)) (.nm 4) turnC)
  (rtS (blt tupD (consL (frzE (lcF [6] (seqI (var 3)) (.nm 6) yes (blt tupD (consL (var 6) nilL)))) nilL))))))
def turnF : FnP := runP 8 2 turnD
def turnSl (n : Nat) (M : Nat → Nat → Int) (x : Nat) (y z m : Option Val) : Sl := [some (.d (webD n M)), some (.d (.int x)), some (.d (.int n)), some (.loc (([] : Sto).length + n)), y, z, none, m]
section
variable {n x y z : Nat} {M T : Nat → Nat → Int} {b : Int}
theorem mat_at {fa fb fc : DE} {sl : Sl} {i j : Nat} {pre : Sto} (h : fa sl (matP pre n T) = .ok (.loc (pre.length + n)) (matP pre n T)) (h2 : fb sl (matP pre n T) = .ok (.d (.int i)) (matP pre n T)) (h3 : fc sl (matP pre n T) = .ok (.d (.int j)) (matP pre n T)) (hi : i < n) (hj : j < n) :
    ixE (ixE fa fb) fc sl (matP pre n T) = .ok (.d (.int (T i j))) (matP pre n T) := z_ix (z_ix h h2 (matP_ix hi)) h3 (matP_get hi hj)
theorem turnB_ok (hs : Skew b M) (hb : b ≤ 1000000) (hx : x < n) (hy : y < n) (hz : z < n) {m : Option Val} :
    ∃ m', turnB (turnSl n M x (some (.d (.int y))) (some (.d (.int z))) m) (matP [] n (turnT M x y z)) = .nx (turnSl n M x (some (.d (.int y))) (some (.d (.int z))) m') (matP [] n (turnT M x y (z + 1))) := by
  have e1 : ∀ m S, ixE (ixE (var 0) (var 4)) (var 1) (turnSl n M x (some (.d (.int y))) (some (.d (.int z))) m) S = .ok (.d (.int (M y x))) S := fun m S => web_at (M := M) (z_var rfl) (z_var rfl) (z_var rfl) hy hx
  have e2 : ∀ m S, ixE (ixE (var 0) (var 1)) (var 5) (turnSl n M x (some (.d (.int y))) (some (.d (.int z))) m) S = .ok (.d (.int (M x z))) S := fun m S => web_at (M := M) (z_var rfl) (z_var rfl) (z_var rfl) hx hz
  have s1 := hs y x
  have s2 := hs x z
  have s3 := hs y z
  have s4 := hs x x
  by_cases c1 : 0 < M y x
  · by_cases c2 : 0 < M x z
    · have hyz : y ≠ z := by rintro rfl; omega
      refine ⟨some (.d (.int (M y x * M x z))), z_ifT (z_andT (z_asB (z_bin (e1 _ _) rfl (by simp [gtI, cmpI, c1]))) (z_asB (z_bin (e2 _ _) rfl (by simp [gtI, cmpI, c2])))) (z_seq (z_asg (x := .d (.int (M y x * M x z))) (z_bin (e1 _ _) (e2 _ _) (mulD_small (by omega) (by omega) (by omega) (by omega)))) ?_)⟩
      have et : thr M x y z = M y x * M x z := if_pos ⟨c1, c2⟩
      have en : turnT M x y (z + 1) = upd2 (upd2 (turnT M x y z) y z (turnT M x y z y z + M y x * M x z)) z y (turnT M x y z z y - M y x * M x z) := by
        funext a c
        unfold upd2
        by_cases h1 : a = z ∧ c = y
        · rw [if_pos h1]
          obtain ⟨rfl, rfl⟩ := h1
          unfold turnT
          have g1 : ¬ (c < c ∨ (c = c ∧ a < a)) := by omega
          have g2 : (c < c ∨ (c = c ∧ a < a + 1)) := by omega
          rw [if_neg g1, if_pos g2, et]
          by_cases g3 : a < c ∨ (a = c ∧ c < a)
          · rw [if_pos g3, if_pos (by omega)]; omega
          · rw [if_neg g3, if_neg (by omega)]; omega
        · rw [if_neg h1]
          by_cases h2 : a = y ∧ c = z
          · rw [if_pos h2]
            obtain ⟨rfl, rfl⟩ := h2
            unfold turnT
            have g1 : ¬ (a < a ∨ (a = a ∧ c < c)) := by omega
            have g2 : (a < a ∨ (a = a ∧ c < c + 1)) := by omega
            rw [if_neg g1, if_pos g2, et]
            by_cases g3 : c < a ∨ (c = a ∧ a < c)
            · rw [if_pos g3, if_pos (by omega)]; omega
            · rw [if_neg g3, if_neg (by omega)]; omega
          · rw [if_neg h2]
            unfold turnT
            have g1 : (a < y ∨ (a = y ∧ c < z + 1)) ↔ (a < y ∨ (a = y ∧ c < z)) := by omega
            have g2 : (c < y ∨ (c = y ∧ a < z + 1)) ↔ (c < y ∨ (c = y ∧ a < z)) := by omega
            simp only [g1, g2]
      rw [en]
      refine z_put2 (z_tup (z_consD (z_bin (mat_at (pre := []) (z_var rfl) (z_var rfl) (z_var rfl) hy hz) (z_var rfl) rfl) (z_consD (z_bin (mat_at (pre := []) (z_var rfl) (z_var rfl) (z_var rfl) hz hy) (z_var rfl) rfl) z_nilD)) (sz_ge 2 (by decide))) (z_ix (z_var rfl) (z_var rfl) (matP_ix hy)) (z_var rfl) (matP_put hy hz) (z_ix (z_var rfl) (z_var rfl) (matP_ix hz)) (z_var rfl) (matP_put hz hy)
    · refine ⟨m, z_ifF (z_andT (z_asB (z_bin (e1 _ _) rfl (by simp [gtI, cmpI, c1]))) (z_asB (z_bin (e2 _ _) rfl (by simp [gtI, cmpI, c2])))) ?_⟩
      have en : turnT M x y (z + 1) = turnT M x y z := by
        have et : thr M x y z = 0 := if_neg (by omega)
        funext a c
        unfold turnT
        by_cases h1 : a = y ∧ c = z
        · obtain ⟨rfl, rfl⟩ := h1
          rw [et, ite_self, ite_self]
          by_cases g : c < a ∨ (c = a ∧ a < c)
          · rw [if_pos g, if_pos (by omega)]
          · by_cases g' : c < a ∨ (c = a ∧ a < c + 1)
            · have : c = a := by omega
              subst this
              rw [if_pos g', if_neg g, et]
            · rw [if_neg g, if_neg g']
        · by_cases h2 : c = y ∧ a = z
          · obtain ⟨rfl, rfl⟩ := h2
            rw [et, ite_self, ite_self]
            have g1 : (a < c ∨ (a = c ∧ c < a + 1)) ↔ (a < c ∨ (a = c ∧ c < a)) := by omega
            simp only [g1]
          · have g1 : (a < y ∨ (a = y ∧ c < z + 1)) ↔ (a < y ∨ (a = y ∧ c < z)) := by omega
            have g2 : (c < y ∨ (c = y ∧ a < z + 1)) ↔ (c < y ∨ (c = y ∧ a < z)) := by omega
            simp only [g1, g2]
      rw [en]
      rfl
  · refine ⟨m, z_ifF (z_andF (z_asB (z_bin (e1 _ _) rfl (by simp [gtI, cmpI, c1])))) ?_⟩
    have en : turnT M x y (z + 1) = turnT M x y z := by
      have et : thr M x y z = 0 := if_neg (by omega)
      funext a c
      unfold turnT
      by_cases h1 : a = y ∧ c = z
      · obtain ⟨rfl, rfl⟩ := h1
        rw [et, ite_self, ite_self]
        by_cases g : c < a ∨ (c = a ∧ a < c)
        · rw [if_pos g, if_pos (by omega)]
        · by_cases g' : c < a ∨ (c = a ∧ a < c + 1)
          · have : c = a := by omega
            subst this
            rw [if_pos g', if_neg g, et]
          · rw [if_neg g, if_neg g']
      · by_cases h2 : c = y ∧ a = z
        · obtain ⟨rfl, rfl⟩ := h2
          rw [et, ite_self, ite_self]
          have g1 : (a < c ∨ (a = c ∧ c < a + 1)) ↔ (a < c ∨ (a = c ∧ c < a)) := by omega
          simp only [g1]
        · have g1 : (a < y ∨ (a = y ∧ c < z + 1)) ↔ (a < y ∨ (a = y ∧ c < z)) := by omega
          have g2 : (c < y ∨ (c = y ∧ a < z + 1)) ↔ (c < y ∨ (c = y ∧ a < z)) := by omega
          simp only [g1, g2]
    rw [en]
    rfl
theorem fgo_range0 {slot : Nat} {g : DS} {P : Nat → Sl → Sto → Prop} {cnt : Nat} (h : ∀ i sl S, i < cnt → P i sl S → ∃ sl' S', g (sl.set slot (some (.d (.int (i : Nat))))) S = .nx sl' S' ∧ P (i + 1) sl' S') {sl : Sl} {S : Sto} (h0 : P 0 sl S) :
    ∃ sl' S', fgo (.nm slot) g (rangeL 0 cnt) sl S = .nx sl' S' ∧ P cnt sl' S' :=
  fgo_range (fun i sl S hi hp => by
    obtain ⟨sl', S', e, p⟩ := h i sl S hi hp
    exact ⟨sl', S', by rw [Int.zero_add]; exact e, p⟩) h0
theorem turn_in (hs : Skew b M) (hb : b ≤ 1000000) (hn : n ≤ 1000) (hx : x < n) (hy : y < n) {z0 m0 : Option Val} :
    ∃ z m, forS (rng1 (consL (var 2) nilL)) (.nm 5) turnB (turnSl n M x (some (.d (.int y))) z0 m0) (matP [] n (turnT M x y 0)) = .nx (turnSl n M x (some (.d (.int y))) z m) (matP [] n (turnT M x y n)) := by
  obtain ⟨sl', S', e, z, m2, rfl, rfl⟩ := fgo_range0 (slot := 5) (g := turnB) (P := fun k sl S => ∃ z m, sl = turnSl n M x (some (.d (.int y))) z m ∧ S = matP [] n (turnT M x y k)) (cnt := n) (fun k sl S hk hp => by
    obtain ⟨z, m, rfl, rfl⟩ := hp
    obtain ⟨m', e⟩ := turnB_ok hs hb hx hy hk (m := m)
    exact ⟨_, _, e, _, _, rfl, rfl⟩) (sl := turnSl n M x (some (.d (.int y))) z0 m0) (S := matP [] n (turnT M x y 0)) ⟨z0, m0, rfl, rfl⟩
  exact ⟨z, m2, z_for (rng1_ok rfl (by omega)) e⟩
theorem turn_mid (hs : Skew b M) (hb : b ≤ 1000000) (hn : n ≤ 1000) (hx : x < n) {y0 z0 m0 : Option Val} :
    ∃ y z m, forS (rng1 (consL (var 2) nilL)) (.nm 4) (forS (rng1 (consL (var 2) nilL)) (.nm 5) turnB) (turnSl n M x y0 z0 m0) (matP [] n M) = .nx (turnSl n M x y z m) (matP [] n (turnT M x n 0)) := by
  have e0 : matP [] n M = matP [] n (turnT M x 0 0) := matP_ext fun a c _ _ => by
    unfold turnT
    rw [if_neg (by omega), if_neg (by omega)]
    omega
  obtain ⟨sl', S', e, y, z, m2, rfl, rfl⟩ := fgo_range0 (slot := 4) (g := forS (rng1 (consL (var 2) nilL)) (.nm 5) turnB) (P := fun k sl S => ∃ y z m, sl = turnSl n M x y z m ∧ S = matP [] n (turnT M x k 0)) (cnt := n) (fun k sl S hk hp => by
    obtain ⟨y, z, m, rfl, rfl⟩ := hp
    obtain ⟨z', m', e⟩ := turn_in hs hb hn hx hk (z0 := z) (m0 := m)
    refine ⟨_, _, e, _, _, _, rfl, matP_ext fun a c ha hc => ?_⟩
    unfold turnT
    have g1 : (a < k ∨ (a = k ∧ c < n)) ↔ (a < k + 1 ∨ (a = k + 1 ∧ c < 0)) := by omega
    have g2 : (c < k ∨ (c = k ∧ a < n)) ↔ (c < k + 1 ∨ (c = k + 1 ∧ a < 0)) := by omega
    simp only [g1, g2]) (sl := turnSl n M x y0 z0 m0) (S := matP [] n (turnT M x 0 0)) ⟨y0, z0, m0, rfl, rfl⟩
  rw [e0]
  exact ⟨y, z, m2, z_for (rng1_ok rfl (by omega)) e⟩
def turnU (M T : Nat → Nat → Int) (x k : Nat) : Nat → Nat → Int := fun a c => if (a = x ∧ c < k) ∨ (c = x ∧ a < k) then 0 - M a c else T a c
theorem turn_end (hn : n ≤ 1000) (hx : x < n) {y0 z0 m : Option Val} :
    ∃ y, forS (rng1 (consL (var 2) nilL)) (.nm 4) turnC (turnSl n M x y0 z0 m) (matP [] n T) = .nx (turnSl n M x y z0 m) (matP [] n (turnU M T x n)) := by
  have e0 : matP [] n T = matP [] n (turnU M T x 0) := matP_ext fun a c _ _ => by
    unfold turnU
    rw [if_neg (by omega)]
  obtain ⟨sl', S', e, y, rfl, rfl⟩ := fgo_range0 (slot := 4) (g := turnC) (P := fun k sl S => ∃ y, sl = turnSl n M x y z0 m ∧ S = matP [] n (turnU M T x k)) (cnt := n) (fun k sl S hk hp => by
    obtain ⟨y, rfl, rfl⟩ := hp
    refine ⟨turnSl n M x (some (.d (.int k))) z0 m, matP [] n (upd2 (upd2 (turnU M T x k) x k (0 - M x k)) k x (0 - M k x)), ?_, _, rfl, matP_ext fun a c ha hc => ?_⟩
    · exact z_put2 (z_tup (z_consD (z_bin rfl (web_at (M := M) (z_var rfl) (z_var rfl) (z_var rfl) hx hk) rfl) (z_consD (z_bin rfl (web_at (M := M) (z_var rfl) (z_var rfl) (z_var rfl) hk hx) rfl) z_nilD)) (sz_ge 2 (by decide))) (z_ix (z_var rfl) (z_var rfl) (matP_ix hx)) (z_var rfl) (matP_put hx hk) (z_ix (z_var rfl) (z_var rfl) (matP_ix hk)) (z_var rfl) (matP_put hk hx)
    · unfold upd2 turnU
      by_cases h1 : a = k ∧ c = x
      · obtain ⟨rfl, rfl⟩ := h1
        rw [if_pos ⟨rfl, rfl⟩, if_pos (by omega)]
      · rw [if_neg h1]
        by_cases h2 : a = x ∧ c = k
        · obtain ⟨rfl, rfl⟩ := h2
          rw [if_pos ⟨rfl, rfl⟩, if_pos (by omega)]
        · rw [if_neg h2]
          have g : ((a = x ∧ c < k + 1) ∨ (c = x ∧ a < k + 1)) ↔ ((a = x ∧ c < k) ∨ (c = x ∧ a < k)) := by omega
          simp only [g]) (sl := turnSl n M x y0 z0 m) (S := matP [] n (turnU M T x 0)) ⟨y0, rfl, rfl⟩
  rw [e0]
  exact ⟨y, z_for (rng1_ok rfl (by omega)) e⟩
theorem give_ok {own : List Nat} {slot k : Nat} {n : Nat} {T : Nat → Nat → Int} {sl : Sl} {pre S' : Sto} (hk : sl[k]? = some (some (.loc (pre.length + n)))) (hsl : slot < (wipeS sl own).length) (hn : n ≤ 1000) (hf : frz (matP pre n T) (.loc (pre.length + n)) = some (.list ((List.range n).map fun i => .list (linD n (T i))), S')) :
    blt tupD (consL (frzE (lcF own (seqI (var k)) (.nm slot) yes (blt tupD (consL (var slot) nilL)))) nilL) sl (matP pre n T) = .ok (.d (webD n T)) S' := by
  have c1 : seqI (var k) sl (matP pre n T) = .ok ((List.range n).map fun i => .list (linD n (T i))) S' := by
    show (var k sl (matP pre n T)).bind _ = _
    rw [z_var hk]
    simp only [R.bind, hf]
  have c2 := lcGo_yes (slot := slot) (el := blt tupD (consL (var slot) nilL)) (sl := wipeS sl own) (S := S') (f := tupOf) ((List.range n).map fun i => .list (linD n (T i))) 0 (fun d hd => by
    obtain ⟨i, _, rfl⟩ := List.mem_map.mp hd
    exact z_blt (ds := [.list (linD n (T i))]) (z_consD (z_var (by rw [List.getElem?_set_self hsl])) z_nilD) rfl) (by rw [List.length_map, List.length_range, Nat.zero_add]; exact sz_ge n hn)
  have c3 := z_lc (own := own) c1 c2
  rw [tup_map] at c3
  exact z_blt (z_consD (z_frzE c3) z_nilD) rfl
theorem turn_ok (hs : Skew b M) (hb : b ≤ 1000000) (hn : n ≤ 1000) (hx : x < n) : turnF [webD n M, .int x] = .ok (webD n (turnM M x)) := by
  obtain ⟨y1, z1, m1, e2⟩ := turn_mid hs hb hn hx (y0 := none) (z0 := none) (m0 := none)
  obtain ⟨y2, e3⟩ := turn_end (M := M) (T := turnT M x n 0) hn hx (y0 := y1) (z0 := z1) (m := m1)
  obtain ⟨S', f1, _⟩ := frz_matP (pre := []) (n := n) (M := turnU M (turnT M x n 0) x n)
  have e1 : parS [2, 3] (consL (blt lenD (consL (var 0) nilL)) (consL (ownE (lcF [6] (seqI (var 0)) (.nm 6) yes (ownE (lstF (var 6))))) nilL)) (slots 8 [.d (webD n M), .d (.int x)]) [] = .nx (turnSl n M x none none none) (matP [] n M) :=
    z_par (z_cons (x := .d (.int n)) (z_blt (ds := [webD n M]) (z_consD (z_var rfl) z_nilD) (by show some (PyData.int _) = _; rw [web_len])) (z_cons (copy_ok (own := [6]) rfl (show (6 : Nat) < 8 by decide) hn) z_nil)) rfl (by decide)
  have e4 := give_ok (own := [6]) (slot := 6) (k := 3) (sl := turnSl n M x y2 z1 m1) (pre := []) rfl (show (6 : Nat) < 8 by decide) hn f1
  have e5 : webD n (turnU M (turnT M x n 0) x n) = webD n (turnM M x) := webD_ext fun a c ha hc => by
    unfold turnU turnM
    by_cases h : a = x ∨ c = x
    · rw [if_pos (by omega), if_pos h]
    · rw [if_neg (by omega), if_neg h]
      unfold turnT
      rw [if_pos (by omega), if_pos (by omega)]
  rw [e5] at e4
  exact z_runP rfl (z_seq e1 (z_seq e2 (z_seq e3 (z_rt e4)))) rfl
end
end DV
set_option Elab.async false
set_option linter.all false
set_option maxRecDepth 100000
set_option maxHeartbeats 4000000
namespace DV
open PySem
def shareL : DS := (whS 100000 (asB (bin gtI (var 3) (cst (.int 0)))) (parS [2, 3] (consL (var 3) (consL (bin modD (var 2) (var 3)) nilL))))
def shareD : DS :=
  (seqS (parS [2, 3] (consL (blt absD (consL (var 0) nilL)) (consL (var 1) nilL)))
  (seqS shareL
  (rtS (tupE (consL (bin divD (var 0) (var 2)) (consL (bin divD (var 1) (var 2)) nilL))))))
def shareF : FnP := runP 4 2 shareD
def shD (p : Int × Int) : PyData := .tuple [.int p.1, .int p.2]
/-- the loop of Euclid -/
theorem euclid {t u : Option Val} : ∀ (k a b f : Nat), b < 2 ^ k → 2 * k + 2 ≤ f → ∃ S', wgo (asB (bin gtI (var 3) (cst (.int 0)))) (parS [2, 3] (consL (var 3) (consL (bin modD (var 2) (var 3)) nilL))) f [t, u, some (.d (.int a)), some (.d (.int b))] [] = .nx [t, u, some (.d (.int (Nat.gcd a b : Nat))), some (.d (.int 0))] [] ∧ S' = ([] : Sto) := by
  have stop : ∀ (a f : Nat), 1 ≤ f → wgo (asB (bin gtI (var 3) (cst (.int 0)))) (parS [2, 3] (consL (var 3) (consL (bin modD (var 2) (var 3)) nilL))) f [t, u, some (.d (.int a)), some (.d (.int (0 : Nat)))] [] = .nx [t, u, some (.d (.int (Nat.gcd a 0 : Nat))), some (.d (.int 0))] [] := by
    intro a f hf
    obtain ⟨g, rfl⟩ : ∃ g, f = g + 1 := ⟨f - 1, by omega⟩
    rw [Nat.gcd_zero_right]
    rfl
  have step : ∀ (a b f : Nat), 0 < b → wgo (asB (bin gtI (var 3) (cst (.int 0)))) (parS [2, 3] (consL (var 3) (consL (bin modD (var 2) (var 3)) nilL))) (f + 1) [t, u, some (.d (.int a)), some (.d (.int b))] [] = wgo (asB (bin gtI (var 3) (cst (.int 0)))) (parS [2, 3] (consL (var 3) (consL (bin modD (var 2) (var 3)) nilL))) f [t, u, some (.d (.int b)), some (.d (.int (a % b : Nat)))] [] := by
    intro a b f hb
    have c1 : asB (bin gtI (var 3) (cst (.int 0))) [t, u, some (.d (.int a)), some (.d (.int b))] [] = .ok true [] := z_asB (z_bin (z_var rfl) rfl (by
      have : (0 : Int) < b := by omega
      simp [gtI, cmpI]
      omega))
    have c2 : parS [2, 3] (consL (var 3) (consL (bin modD (var 2) (var 3)) nilL)) [t, u, some (.d (.int a)), some (.d (.int b))] [] = .nx [t, u, some (.d (.int b)), some (.d (.int (a % b : Nat)))] [] := z_par (z_cons (z_var rfl) (z_cons (x := .d (.int (a % b : Nat))) (z_bin (z_var rfl) (z_var rfl) (by
      have : (0 : Int) < b := by omega
      show (if (0 : Int) < b then some (PyData.int ((a : Int) % b)) else none) = _
      rw [if_pos this]
      simp)) z_nil)) rfl (by decide)
    show thenS _ _ _ = _
    rw [c1]
    simp only [thenS, if_true]
    rw [c2]
  intro k
  induction k with
  | zero =>
    intro a b f hb hf
    have : b = 0 := by omega
    subst this
    exact ⟨[], stop a f (by omega), rfl⟩
  | succ k ih =>
    intro a b f hb hf
    refine ⟨[], ?_, rfl⟩
    by_cases b0 : b = 0
    · subst b0
      exact stop a f (by omega)
    · obtain ⟨g, rfl⟩ : ∃ g, f = g + 2 := ⟨f - 2, by omega⟩
      rw [step a b (g + 1) (by omega)]
      by_cases r0 : a % b = 0
      · rw [r0, stop b (g + 1) (by omega), Nat.gcd_zero_right]
        rw [show Nat.gcd a b = b from by rw [Nat.gcd_comm, Nat.gcd_rec, r0, Nat.gcd_zero_left]]
      · have hr : a % b < b := Nat.mod_lt _ (by omega)
        rw [step b (a % b) g (by omega)]
        have hq : b % (a % b) < 2 ^ k := by
          have h1 : b % (a % b) < a % b := Nat.mod_lt _ (by omega)
          have h2 : b % (a % b) + (a % b) ≤ b := by
            have := Nat.div_add_mod b (a % b)
            have h3 : 1 ≤ b / (a % b) := Nat.div_pos (by omega) (by omega)
            have h4 : (a % b) * 1 ≤ (a % b) * (b / (a % b)) := Nat.mul_le_mul_left _ h3
            omega
          have : 2 ^ (k + 1) = 2 * 2 ^ k := by rw [Nat.pow_succ]; omega
          omega
        obtain ⟨S', e, _⟩ := ih (a % b) (b % (a % b)) g hq (by omega)
        rw [e]
        rw [show Nat.gcd a b = Nat.gcd (a % b) (b % (a % b)) from by
          rw [Nat.gcd_comm a b, Nat.gcd_rec b a]
          exact (Nat.gcd_rec (a % b) b).trans (Nat.gcd_comm _ _)]
def shareZ (t b : Int) : Int × Int := (t / (Nat.gcd t.natAbs b.natAbs : Nat), b / (Nat.gcd t.natAbs b.natAbs : Nat))
theorem share_ok {t b : Int} (hb : 0 < b) (hs : b.natAbs.log2 < 8000) : shareF [.int t, .int b] = .ok (shD (shareZ t b)) := by
  have e1 : parS [2, 3] (consL (blt absD (consL (var 0) nilL)) (consL (var 1) nilL)) (slots 4 [.d (.int t), .d (.int b)]) [] = .nx [some (.d (.int t)), some (.d (.int b)), some (.d (.int t.natAbs)), some (.d (.int b.natAbs))] [] := by
    have a1 : (if t < 0 then -t else t) = (t.natAbs : Int) := by split <;> omega
    have a2 : b = (b.natAbs : Int) := by omega
    refine z_par (xs := [.d (.int t.natAbs), .d (.int b)]) (z_cons (z_blt (ds := [.int t]) (z_consD (z_var rfl) z_nilD) (by show some (PyData.int (if t < 0 then -t else t)) = _; rw [a1])) (z_cons (z_var rfl) z_nil)) ?_ (by decide)
    show some [some (Val.d (.int t)), some (Val.d (.int b)), some (Val.d (.int t.natAbs)), some (Val.d (.int b))] = _
    rw [← a2]
  have hk : b.natAbs < 2 ^ (b.natAbs.log2 + 1) := Nat.lt_log2_self
  obtain ⟨_, e2, _⟩ := euclid (t := some (.d (.int t))) (u := some (.d (.int b))) (b.natAbs.log2 + 1) t.natAbs b.natAbs 100000 hk (by omega)
  have g0 : 0 < Nat.gcd t.natAbs b.natAbs := Nat.gcd_pos_of_pos_right _ (by omega)
  have g1 : Nat.gcd t.natAbs b.natAbs ≤ b.natAbs := Nat.le_of_dvd (by omega) (Nat.gcd_dvd_right _ _)
  have g2 : (Nat.gcd t.natAbs b.natAbs).log2 < 9000 := by
    have : (Nat.gcd t.natAbs b.natAbs).log2 ≤ b.natAbs.log2 := by
      have h := (Nat.log2_lt (show Nat.gcd t.natAbs b.natAbs ≠ 0 by omega)).mpr (Nat.lt_of_le_of_lt g1 hk)
      omega
    omega
  have dv : ∀ z : Int, divD (.int z) (.int (Nat.gcd t.natAbs b.natAbs : Nat)) = some (.int (z / (Nat.gcd t.natAbs b.natAbs : Nat))) := by
    intro z
    have h0 : (0 : Int) < (Nat.gcd t.natAbs b.natAbs : Nat) := by omega
    show (if decide ((0 : Int) < (Nat.gcd t.natAbs b.natAbs : Nat)) && decide ((((Nat.gcd t.natAbs b.natAbs : Nat) : Int)).natAbs.log2 < 9000) then some (PyData.int (z / (Nat.gcd t.natAbs b.natAbs : Nat))) else none) = _
    rw [decide_eq_true h0, Int.natAbs_natCast, decide_eq_true g2]
    rfl
  refine z_runP rfl (z_seq e1 (z_seq (show shareL _ _ = _ from e2) (z_rt (S1 := []) (z_tup (ds := [_, _]) (z_consD (z_bin (z_var rfl) (z_var rfl) (dv t)) (z_consD (z_bin (z_var rfl) (z_var rfl) (dv b)) z_nilD)) (sz_ge 2 (by decide)))))) rfl
theorem shareZ_pos {t b : Int} (hb : 0 < b) : 0 < (shareZ t b).2 := by
  unfold shareZ
  have g0 : 0 < Nat.gcd t.natAbs b.natAbs := Nat.gcd_pos_of_pos_right _ (by omega)
  have g1 : ((Nat.gcd t.natAbs b.natAbs : Nat) : Int) ∣ b := by
    have h : ((Nat.gcd t.natAbs b.natAbs : Nat) : Int) ∣ ((b.natAbs : Nat) : Int) := Int.natCast_dvd_natCast.mpr (Nat.gcd_dvd_right _ _)
    rwa [show ((b.natAbs : Nat) : Int) = b by omega] at h
  exact Int.ediv_pos_of_pos_of_dvd hb (by omega) g1
def timesD : DS :=
  (rtS (callP shareF (consL (bin mulD (ixE (var 0) (cst (.int 0))) (ixE (var 1) (cst (.int 0)))) (consL (bin mulD (ixE (var 0) (cst (.int 1))) (ixE (var 1) (cst (.int 1)))) nilL))))
def timesF : FnP := runP 2 2 timesD
def plusD : DS :=
  (rtS (callP shareF (consL (bin addD (bin mulD (ixE (var 0) (cst (.int 0))) (ixE (var 1) (cst (.int 1)))) (bin mulD (ixE (var 1) (cst (.int 0))) (ixE (var 0) (cst (.int 1))))) (consL (bin mulD (ixE (var 0) (cst (.int 1))) (ixE (var 1) (cst (.int 1)))) nilL))))
def plusF : FnP := runP 2 2 plusD
/-- not too great to reckon with, above 0 below -/
def Sm (p : Int × Int) : Prop := p.1.natAbs.log2 < 3000 ∧ 0 < p.2 ∧ p.2.natAbs.log2 < 3000
def smB (p : Int × Int) : Bool := decide (p.1.natAbs.log2 < 3000) && decide (0 < p.2) && decide (p.2.natAbs.log2 < 3000)
theorem smB_ok {p : Int × Int} (h : smB p = true) : Sm p := by
  simpa [smB, Sm, and_assoc] using h
def timesZ (p q : Int × Int) : Int × Int := shareZ (p.1 * q.1) (p.2 * q.2)
def plusZ (p q : Int × Int) : Int × Int := shareZ (p.1 * q.2 + q.1 * p.2) (p.2 * q.2)
theorem log_mul {a b : Int} : (a * b).natAbs.log2 ≤ a.natAbs.log2 + b.natAbs.log2 + 1 := by
  rw [Int.natAbs_mul]
  by_cases h : a.natAbs * b.natAbs = 0
  · rw [h]; simp
  · have h1 : a.natAbs < 2 ^ (a.natAbs.log2 + 1) := Nat.lt_log2_self
    have h2 : b.natAbs < 2 ^ (b.natAbs.log2 + 1) := Nat.lt_log2_self
    have h3 : a.natAbs * b.natAbs < 2 ^ (a.natAbs.log2 + 1 + (b.natAbs.log2 + 1)) := by
      rw [Nat.pow_add]
      exact Nat.mul_lt_mul'' h1 h2
    have := (Nat.log2_lt h).mpr h3
    omega
theorem mulD_log {a b : Int} (h : a.natAbs.log2 < 3000) (h2 : b.natAbs.log2 < 3000) : mulD (.int a) (.int b) = some (.int (a * b)) := by
  unfold mulD
  simp only []
  rw [if_pos (by omega)]
theorem sh_0 {p : Int × Int} {S : Sto} : ixV S (.d (shD p)) (.d (.int 0)) = .ok (.d (.int p.1)) S := rfl
theorem sh_1 {p : Int × Int} {S : Sto} : ixV S (.d (shD p)) (.d (.int 1)) = .ok (.d (.int p.2)) S := rfl
theorem times_ok {p q : Int × Int} (hp : Sm p) (hq : Sm q) : timesF [shD p, shD q] = .ok (shD (timesZ p q)) := by
  refine z_runP rfl (z_rt (S1 := []) (z_callP (ds := [.int (p.1 * q.1), .int (p.2 * q.2)]) (z_consD (z_bin (z_ix (z_var rfl) rfl sh_0) (z_ix (z_var rfl) rfl sh_0) (mulD_log hp.1 hq.1)) (z_consD (z_bin (z_ix (z_var rfl) rfl sh_1) (z_ix (z_var rfl) rfl sh_1) (mulD_log hp.2.2 hq.2.2)) z_nilD)) (share_ok (Int.mul_pos hp.2.1 hq.2.1) ?_))) rfl
  have := @log_mul p.2 q.2
  have := hp.2.2
  have := hq.2.2
  omega
theorem plus_ok {p q : Int × Int} (hp : Sm p) (hq : Sm q) : plusF [shD p, shD q] = .ok (shD (plusZ p q)) := by
  refine z_runP rfl (z_rt (S1 := []) (z_callP (ds := [.int (p.1 * q.2 + q.1 * p.2), .int (p.2 * q.2)]) (z_consD (z_bin (z_bin (z_ix (z_var rfl) rfl sh_0) (z_ix (z_var rfl) rfl sh_1) (mulD_log hp.1 hq.2.2)) (z_bin (z_ix (z_var rfl) rfl sh_0) (z_ix (z_var rfl) rfl sh_1) (mulD_log hq.1 hp.2.2)) rfl) (z_consD (z_bin (z_ix (z_var rfl) rfl sh_1) (z_ix (z_var rfl) rfl sh_1) (mulD_log hp.2.2 hq.2.2)) z_nilD)) (share_ok (Int.mul_pos hp.2.1 hq.2.1) ?_))) rfl
  have := @log_mul p.2 q.2
  have := hp.2.2
  have := hq.2.2
  omega
end DV
set_option Elab.async false
set_option linter.all false
set_option maxRecDepth 100000
set_option maxHeartbeats 4000000
namespace DV
open PySem
def valsB : DS := (seqS (asgS 5 (ifE (asB (bin gtI (ixE (ixE (var 0) (var 7)) (var 4)) (cst (.int 0)))) (callP timesF (consL (var 5) (consL (ixE (var 3) (var 7)) nilL))) (var 5)))
  (asgS 6 (ifE (asB (bin ltI (ixE (ixE (var 0) (var 7)) (var 4)) (cst (.int 0)))) (callP timesF (consL (var 6) (consL (ixE (var 3) (var 7)) nilL))) (var 6))))
def valsC : DS := forS (rng1 (consL (blt absD (consL (ixE (ixE (var 0) (var 7)) (var 4)) nilL)) nilL)) (.nm 8) valsB
def valsE : DS := (seqS (parS [5, 6] (consL (tupE (consL (cst (.int 1)) (consL (cst (.int 1)) nilL))) (consL (tupE (consL (cst (.int 1)) (consL (cst (.int 1)) nilL))) nilL)))
  (seqS (forS (rng1 (consL (blt lenD (consL (var 0) nilL)) nilL)) (.nm 7) valsC)
  (seqS (putS (callP timesF (consL (callP plusF (consL (var 5) (consL (var 6) nilL))) (consL (tupE (consL (ixE (ixE (var 3) (var 4)) (cst (.int 1))) (consL (ixE (ixE (var 3) (var 4)) (cst (.int 0))) nilL))) nilL))) (var 3) (var 4))
  (asgS 0 (callP turnF (consL (var 0) (consL (var 4) nilL)))))))
def valsD : DS :=
  (seqS (asgS 3 (ownE (lstF (var 2))))
  (seqS (forS (seqI (var 1)) (.nm 4) valsE)
  (rtS (var 3))))
def valsF : FnP := runP 9 3 valsD
abbrev Shr := Int × Int
theorem z_ifeT {c : DB} {fa fb : DE} {sl : Sl} {S S1 : Sto} {r : R Val} (h : c sl S = .ok true S1) (h2 : fa sl S1 = r) : ifE c fa fb sl S = r := by
  show (c sl S).bind _ = _
  rw [h]; exact h2
theorem z_ifeF {c : DB} {fa fb : DE} {sl : Sl} {S S1 : Sto} {r : R Val} (h : c sl S = .ok false S1) (h2 : fb sl S1 = r) : ifE c fa fb sl S = r := by
  show (c sl S).bind _ = _
  rw [h]; exact h2
def intoO (v : Shr) : Nat → Shr → Option Shr
  | 0, p => some p
  | k + 1, p => if smB p && smB v then intoO v k (timesZ p v) else none
def stepO (m : Int) (v : Shr) (io : Shr × Shr) : Option (Shr × Shr) :=
  if 0 < m then (intoO v m.natAbs io.1).map fun p => (p, io.2) else (intoO v m.natAbs io.2).map fun p => (io.1, p)
def ioO (M : Nat → Nat → Int) (x : Nat) (f : Nat → Shr) : Nat → Option (Shr × Shr)
  | 0 => some ((1, 1), (1, 1))
  | k + 1 => (ioO M x f k).bind (stepO (M k x) (f k))
def newO (n : Nat) (M : Nat → Nat → Int) (x : Nat) (f : Nat → Shr) : Option Shr :=
  (ioO M x f n).bind fun io => if smB io.1 && smB io.2 && smB (plusZ io.1 io.2) && smB ((f x).2, (f x).1) then some (timesZ (plusZ io.1 io.2) ((f x).2, (f x).1)) else none
def setF (f : Nat → Shr) (x : Nat) (v : Shr) : Nat → Shr := fun k => if k = x then v else f k
def valsO (n : Nat) : (Nat → Nat → Int) → List Nat → (Nat → Shr) → Option (Nat → Shr)
  | _, [], f => some f
  | M, x :: xs, f => (newO n M x f).bind fun v => valsO n (turnM M x) xs (setF f x v)
def WebsOk (n : Nat) : (Nat → Nat → Int) → List Nat → Prop
  | _, [] => True
  | M, x :: xs => x < n ∧ (∃ b, b ≤ 1000000 ∧ Skew b M) ∧ WebsOk n (turnM M x) xs
def valsL (n : Nat) (f : Nat → Shr) : List Val := (List.range n).map fun k => .d (shD (f k))
def valsSl (n : Nat) (M : Nat → Nat → Int) (told starts : Val) (x i o y t : Option Val) : Sl := [some (.d (webD n M)), some told, some starts, some (.loc 0), x, i, o, y, t]
section
variable {n x y : Nat} {M : Nat → Nat → Int} {f : Nat → Shr} {told starts : Val} {i o : Shr} {b : Int}
theorem val_get (hy : y < n) : ixV [.lst (valsL n f)] (.loc 0) (.d (.int y)) = .ok (.d (shD (f y))) [.lst (valsL n f)] := by
  show (match L2.atI (valsL n f) (y : Int) with | some v => R.ok v [Ob.lst (valsL n f)] | none => .bad) = _
  unfold valsL
  rw [atI_map _ hy]
theorem valsB_ok (hx : x < n) (hy : y < n) {t : Option Val} {m : Int} (em : M y x = m) (hm : m ≠ 0) {i' o' : Shr} (hi : if 0 < m then Sm i ∧ Sm (f y) ∧ i' = timesZ i (f y) ∧ o' = o else Sm o ∧ Sm (f y) ∧ o' = timesZ o (f y) ∧ i' = i) :
    valsB (valsSl n M told starts (some (.d (.int x))) (some (.d (shD i))) (some (.d (shD o))) (some (.d (.int y))) t) [.lst (valsL n f)] = .nx (valsSl n M told starts (some (.d (.int x))) (some (.d (shD i'))) (some (.d (shD o'))) (some (.d (.int y))) t) [.lst (valsL n f)] := by
  have e1 : ∀ i o, ixE (ixE (var 0) (var 7)) (var 4) (valsSl n M told starts (some (.d (.int x))) i o (some (.d (.int y))) t) [.lst (valsL n f)] = .ok (.d (.int m)) [.lst (valsL n f)] := fun i o => by
    rw [← em]
    exact web_at (M := M) (z_var rfl) (z_var rfl) (z_var rfl) hy hx
  by_cases c : 0 < m
  · rw [if_pos c] at hi
    obtain ⟨h1, h2, rfl, rfl⟩ := hi
    have c2 : ¬ m < 0 := by omega
    refine z_seq (S1 := [.lst (valsL n f)]) (z_asg (x := .d (shD (timesZ i (f y)))) ?_) (z_asg (x := .d (shD o')) ?_)
    · exact z_ifeT (S1 := [.lst (valsL n f)]) (z_asB (z_bin (e1 _ _) rfl (by simp [gtI, cmpI, c]))) (z_callP (ds := [shD i, shD (f y)]) (z_consD (z_var rfl) (z_consD (z_ix (z_var rfl) (z_var rfl) (val_get hy)) z_nilD)) (times_ok h1 h2))
    · exact z_ifeF (S1 := [.lst (valsL n f)]) (z_asB (z_bin (e1 _ _) rfl (by simp [ltI, cmpI, c2]))) (z_var rfl)
  · rw [if_neg c] at hi
    obtain ⟨h1, h2, rfl, rfl⟩ := hi
    have c2 : m < 0 := by omega
    refine z_seq (S1 := [.lst (valsL n f)]) (z_asg (x := .d (shD i')) ?_) (z_asg (x := .d (shD (timesZ o (f y)))) ?_)
    · exact z_ifeF (S1 := [.lst (valsL n f)]) (z_asB (z_bin (e1 _ _) rfl (by simp [gtI, cmpI, c]))) (z_var rfl)
    · exact z_ifeT (S1 := [.lst (valsL n f)]) (z_asB (z_bin (e1 _ _) rfl (by simp [ltI, cmpI, c2]))) (z_callP (ds := [shD o, shD (f y)]) (z_consD (z_var rfl) (z_consD (z_ix (z_var rfl) (z_var rfl) (val_get hy)) z_nilD)) (times_ok h1 h2))
theorem intoO_step {v p q : Shr} {k : Nat} (h : intoO v (k + 1) p = some q) : Sm p ∧ Sm v ∧ intoO v k (timesZ p v) = some q := by
  unfold intoO at h
  split at h
  · rename_i c
    simp only [Bool.and_eq_true] at c
    exact ⟨smB_ok c.1, smB_ok c.2, h⟩
  · cases h
/-- the inner loop -/
theorem valsC_go (hx : x < n) (hy : y < n) {m : Int} (em : M y x = m) (hm : m ≠ 0) : ∀ (l : List PyData) (i o : Shr) (io' : Shr × Shr) (t : Option Val), (if 0 < m then (intoO (f y) l.length i).map (fun p => (p, o)) else (intoO (f y) l.length o).map fun p => (i, p)) = some io' →
    ∃ t', fgo (.nm 8) valsB l (valsSl n M told starts (some (.d (.int x))) (some (.d (shD i))) (some (.d (shD o))) (some (.d (.int y))) t) [.lst (valsL n f)] = .nx (valsSl n M told starts (some (.d (.int x))) (some (.d (shD io'.1))) (some (.d (shD io'.2))) (some (.d (.int y))) t') [.lst (valsL n f)]
  | [], i, o, io', t, h => by
    have : io' = (i, o) := by
      split at h <;> simpa [intoO, eq_comm] using h
    subst this
    exact ⟨t, rfl⟩
  | d :: l, i, o, io', t, h => by
    by_cases c : 0 < m
    · rw [if_pos c] at h
      obtain ⟨p, e1, e2⟩ := Option.map_eq_some_iff.mp h
      obtain ⟨s1, s2, e3⟩ := intoO_step e1
      obtain ⟨t', e⟩ := valsC_go hx hy em hm l (timesZ i (f y)) o io' (some (.d d)) (by rw [if_pos c, e3]; exact congrArg some e2)
      refine ⟨t', ?_⟩
      have b1 := valsB_ok (told := told) (starts := starts) (i := i) (o := o) hx hy (t := some (.d d)) em hm (i' := timesZ i (f y)) (o' := o) (by rw [if_pos c]; exact ⟨s1, s2, rfl, rfl⟩)
      unfold fgo
      simp only [setT]
      rw [show (valsSl n M told starts (some (.d (.int x))) (some (.d (shD i))) (some (.d (shD o))) (some (.d (.int y))) t).set 8 (some (.d d)) = valsSl n M told starts (some (.d (.int x))) (some (.d (shD i))) (some (.d (shD o))) (some (.d (.int y))) (some (.d d)) from rfl, b1]
      exact e
    · rw [if_neg c] at h
      obtain ⟨p, e1, e2⟩ := Option.map_eq_some_iff.mp h
      obtain ⟨s1, s2, e3⟩ := intoO_step e1
      obtain ⟨t', e⟩ := valsC_go hx hy em hm l i (timesZ o (f y)) io' (some (.d d)) (by rw [if_neg c, e3]; exact congrArg some e2)
      refine ⟨t', ?_⟩
      have b1 := valsB_ok (told := told) (starts := starts) (i := i) (o := o) hx hy (t := some (.d d)) em hm (i' := i) (o' := timesZ o (f y)) (by rw [if_neg c]; exact ⟨s1, s2, rfl, rfl⟩)
      unfold fgo
      simp only [setT]
      rw [show (valsSl n M told starts (some (.d (.int x))) (some (.d (shD i))) (some (.d (shD o))) (some (.d (.int y))) t).set 8 (some (.d d)) = valsSl n M told starts (some (.d (.int x))) (some (.d (shD i))) (some (.d (shD o))) (some (.d (.int y))) (some (.d d)) from rfl, b1]
      exact e
theorem valsC_ok (hs : Skew b M) (hb : b ≤ 1000000) (hx : x < n) (hy : y < n) {io io' : Shr × Shr} {t : Option Val} (h : stepO (M y x) (f y) io = some io') :
    ∃ t', valsC (valsSl n M told starts (some (.d (.int x))) (some (.d (shD io.1))) (some (.d (shD io.2))) (some (.d (.int y))) t) [.lst (valsL n f)] = .nx (valsSl n M told starts (some (.d (.int x))) (some (.d (shD io'.1))) (some (.d (shD io'.2))) (some (.d (.int y))) t') [.lst (valsL n f)] := by
  have e0 : rng1 (consL (blt absD (consL (ixE (ixE (var 0) (var 7)) (var 4)) nilL)) nilL) (valsSl n M told starts (some (.d (.int x))) (some (.d (shD io.1))) (some (.d (shD io.2))) (some (.d (.int y))) t) [.lst (valsL n f)] = .ok (rangeL 0 (M y x).natAbs) [.lst (valsL n f)] := by
    refine rng1_ok (z_cons (z_blt (ds := [.int (M y x)]) (z_consD (web_at (M := M) (z_var rfl) (z_var rfl) (z_var rfl) hy hx) z_nilD) ?_) z_nil) ?_
    · show some (PyData.int (if M y x < 0 then -(M y x) else M y x)) = _
      congr 2
      split <;> omega
    · have := hs y x
      omega
  by_cases hm : M y x = 0
  · have : io' = io := by
      unfold stepO at h
      rw [hm] at h
      simp [intoO] at h
      exact h.symm
    subst this
    refine ⟨t, z_for e0 ?_⟩
    rw [hm]
    rfl
  · obtain ⟨t', e⟩ := valsC_go (told := told) (starts := starts) (f := f) hx hy rfl hm (rangeL 0 (M y x).natAbs) io.1 io.2 io' t (by rw [rangeL_length]; exact h)
    exact ⟨t', z_for e0 e⟩
theorem valsC_all (hs : Skew b M) (hb : b ≤ 1000000) (hn : n ≤ 1000) (hx : x < n) {y0 t0 : Option Val} : ∀ {io : Shr × Shr}, ioO M x f n = some io →
    ∃ y t, forS (rng1 (consL (blt lenD (consL (var 0) nilL)) nilL)) (.nm 7) valsC (valsSl n M told starts (some (.d (.int x))) (some (.d (shD (1, 1)))) (some (.d (shD (1, 1)))) y0 t0) [.lst (valsL n f)] = .nx (valsSl n M told starts (some (.d (.int x))) (some (.d (shD io.1))) (some (.d (shD io.2))) y t) [.lst (valsL n f)] := by
  intro io h
  have some_at : ∀ k, k ≤ n → ∃ io, ioO M x f k = some io := by
    intro k hk
    by_cases e : k = n
    · exact ⟨io, e ▸ h⟩
    · have main : ∀ j, ∀ io, ioO M x f j = some io → ∀ k, k ≤ j → ∃ io, ioO M x f k = some io := by
        intro j
        induction j with
        | zero =>
          intro io h k hk
          have : k = 0 := by omega
          subst this
          exact ⟨io, h⟩
        | succ j ih =>
          intro io h k hk
          by_cases e : k = j + 1
          · exact ⟨io, e ▸ h⟩
          · unfold ioO at h
            obtain ⟨io1, h1, _⟩ := Option.bind_eq_some_iff.mp h
            exact ih io1 h1 k (by omega)
      exact main n io h k hk
  have e0 : rng1 (consL (blt lenD (consL (var 0) nilL)) nilL) (valsSl n M told starts (some (.d (.int x))) (some (.d (shD (1, 1)))) (some (.d (shD (1, 1)))) y0 t0) [.lst (valsL n f)] = .ok (rangeL 0 n) [.lst (valsL n f)] :=
    rng1_ok (z_cons (z_blt (ds := [webD n M]) (z_consD (z_var rfl) z_nilD) (by show some (PyData.int _) = _; rw [web_len])) z_nil) (by omega)
  obtain ⟨sl', S', e, io2, y, t, h2, rfl, rfl⟩ := fgo_range0 (slot := 7) (g := valsC) (cnt := n) (P := fun k sl S => ∃ io y t, ioO M x f k = some io ∧ sl = valsSl n M told starts (some (.d (.int x))) (some (.d (shD io.1))) (some (.d (shD io.2))) y t ∧ S = [.lst (valsL n f)]) (fun k sl S hk hp => by
    obtain ⟨io1, y, t, h1, rfl, rfl⟩ := hp
    obtain ⟨io2, h2⟩ := some_at (k + 1) (by omega)
    have h3 : stepO (M k x) (f k) io1 = some io2 := by
      unfold ioO at h2
      rw [h1] at h2
      exact h2
    obtain ⟨t', e⟩ := valsC_ok (told := told) (starts := starts) hs hb hx hk (t := t) h3
    exact ⟨_, _, e, io2, _, _, h2, rfl, rfl⟩) (sl := valsSl n M told starts (some (.d (.int x))) (some (.d (shD (1, 1)))) (some (.d (shD (1, 1)))) y0 t0) (S := [.lst (valsL n f)]) ⟨((1, 1), (1, 1)), y0, t0, rfl, rfl, rfl⟩
  rw [h] at h2
  cases h2
  exact ⟨y, t, z_for e0 e⟩
theorem valsL_set {v : Shr} (hx : x < n) : (valsL n f).set x (.d (shD v)) = valsL n (setF f x v) := by
  unfold valsL
  rw [map_set]
  apply List.map_congr_left
  intro k _
  unfold setF
  by_cases e : k = x <;> simp [e]
theorem valsE_ok (hs : Skew b M) (hb : b ≤ 1000000) (hn : n ≤ 1000) (hx : x < n) {v : Shr} (h : newO n M x f = some v) {i0 o0 y0 t0 : Option Val} :
    ∃ i o y t, valsE (valsSl n M told starts (some (.d (.int x))) i0 o0 y0 t0) [.lst (valsL n f)] = .nx (valsSl n (turnM M x) told starts (some (.d (.int x))) i o y t) [.lst (valsL n (setF f x v))] := by
  unfold newO at h
  obtain ⟨io, h1, h2⟩ := Option.bind_eq_some_iff.mp h
  split at h2
  · rename_i c
    simp only [Bool.and_eq_true] at c
    obtain ⟨⟨⟨c1, c2⟩, c3⟩, c4⟩ := c
    cases h2
    obtain ⟨y, t, e2⟩ := valsC_all (told := told) (starts := starts) hs hb hn hx (y0 := y0) (t0 := t0) h1
    refine ⟨some (.d (shD io.1)), some (.d (shD io.2)), y, t, z_seq (S1 := [.lst (valsL n f)]) (sl1 := valsSl n M told starts (some (.d (.int x))) (some (.d (shD (1, 1)))) (some (.d (shD (1, 1)))) y0 t0) ?_ (z_seq e2 (z_seq (sl1 := valsSl n M told starts (some (.d (.int x))) (some (.d (shD io.1))) (some (.d (shD io.2))) y t) (S1 := [.lst (valsL n (setF f x (timesZ (plusZ io.1 io.2) ((f x).2, (f x).1))))]) ?_ (z_asg (x := .d (webD n (turnM M x))) (z_callP (ds := [webD n M, .int x]) (z_consD (z_var rfl) (z_consD (z_var rfl) z_nilD)) (turn_ok hs hb hn hx)))))⟩
    · exact z_par (z_cons (z_tup (ds := [.int 1, .int 1]) (z_consD rfl (z_consD rfl z_nilD)) (sz_ge 2 (by decide))) (z_cons (z_tup (ds := [.int 1, .int 1]) (z_consD rfl (z_consD rfl z_nilD)) (sz_ge 2 (by decide))) z_nil)) rfl (by decide)
    · refine z_put (z_callP (ds := [shD (plusZ io.1 io.2), shD ((f x).2, (f x).1)]) (z_consD (z_callP (ds := [shD io.1, shD io.2]) (z_consD (z_var rfl) (z_consD (z_var rfl) z_nilD)) (plus_ok (smB_ok c1) (smB_ok c2))) (z_consD (z_tup (ds := [.int (f x).2, .int (f x).1]) (z_consD (z_ix (z_ix (z_var rfl) (z_var rfl) (val_get hx)) rfl sh_1) (z_consD (z_ix (z_ix (z_var rfl) (z_var rfl) (val_get hx)) rfl sh_0) z_nilD)) (sz_ge 2 (by decide))) z_nilD)) (times_ok (smB_ok c3) (smB_ok c4))) (z_var rfl) (z_var rfl) ?_
      show (match L2.ixN (valsL n f).length (x : Int) with | some j => some ([Ob.lst (valsL n f)].set 0 (.lst ((valsL n f).set j _))) | none => none) = _
      rw [show (valsL n f).length = n by simp [valsL], ixN_of hx]
      simp only [List.set_cons_zero]
      rw [valsL_set hx]
  · cases h2
theorem vals_cons {k : Nat} {l : List Nat} {M : Nat → Nat → Int} {f f' : Nat → Shr} (h : valsO n M (k :: l) f = some f') : ∃ v, newO n M k f = some v ∧ valsO n (turnM M k) l (setF f k v) = some f' := by
  have h' : (newO n M k f).bind (fun v => valsO n (turnM M k) l (setF f k v)) = some f' := h
  exact Option.bind_eq_some_iff.mp h'
theorem webs_cons {k : Nat} {l : List Nat} {M : Nat → Nat → Int} (h : WebsOk n M (k :: l)) : k < n ∧ (∃ b, b ≤ 1000000 ∧ Skew b M) ∧ WebsOk n (turnM M k) l := h
theorem fgo_cons {tg : Nat} {g : DS} {d : PyData} {ds : List PyData} {sl sl2 : Sl} {S S2 : Sto} {r : RS} (h : g (sl.set tg (some (.d d))) S = .nx sl2 S2) (h2 : fgo (.nm tg) g ds sl2 S2 = r) : fgo (.nm tg) g (d :: ds) sl S = r := by
  unfold fgo
  simp only [setT]
  rw [h]
  exact h2
theorem vals_go (hn : n ≤ 1000) : ∀ (l : List Nat) (M : Nat → Nat → Int) (f f' : Nat → Shr) (x0 i0 o0 y0 t0 : Option Val), WebsOk n M l → valsO n M l f = some f' →
    ∃ M' x i o y t, fgo (.nm 4) valsE (l.map fun k => .int (k : Nat)) (valsSl n M told starts x0 i0 o0 y0 t0) [.lst (valsL n f)] = .nx (valsSl n M' told starts x i o y t) [.lst (valsL n f')] := by
  intro l
  induction l with
  | nil =>
    intro M f f' x0 i0 o0 y0 t0 _ h
    have e : f = f' := Option.some.inj h
    subst e
    exact ⟨M, x0, i0, o0, y0, t0, rfl⟩
  | cons k l ih =>
    intro M f f' x0 i0 o0 y0 t0 hw h
    obtain ⟨hk, ⟨b, hb, hs⟩, hw2⟩ := webs_cons hw
    obtain ⟨v, h1, h2⟩ := vals_cons h
    obtain ⟨i, o, y, t, e⟩ := valsE_ok (told := told) (starts := starts) hs hb hn hk h1 (i0 := i0) (o0 := o0) (y0 := y0) (t0 := t0)
    obtain ⟨M', x2, i2, o2, y2, t2, e2⟩ := ih (turnM M k) (setF f k v) f' (some (.d (.int k))) i o y t hw2 h2
    exact ⟨M', x2, i2, o2, y2, t2, fgo_cons e e2⟩
theorem vals_ok {l : List Nat} {f' : Nat → Shr} (hn : n ≤ 1000) (hw : WebsOk n M l) (h : valsO n M l f = some f') :
    valsF [webD n M, .tuple (l.map fun k => .int (k : Nat)), .tuple ((List.range n).map fun k => shD (f k))] = .ok (.list ((List.range n).map fun k => shD (f' k))) := by
  obtain ⟨M', x, i, o, y, t, e⟩ := vals_go (told := .d (.tuple (l.map fun k => .int (k : Nat)))) (starts := .d (.tuple ((List.range n).map fun k => shD (f k)))) hn l M f f' none none none none none hw h
  have e1 : asgS 3 (ownE (lstF (var 2))) (slots 9 [.d (webD n M), .d (.tuple (l.map fun k => .int (k : Nat))), .d (.tuple ((List.range n).map fun k => shD (f k)))]) [] = .nx (valsSl n M (.d (.tuple (l.map fun k => .int (k : Nat)))) (.d (.tuple ((List.range n).map fun k => shD (f k)))) none none none none none) [.lst (valsL n f)] := by
    rw [z_asg (z_own (z_lst1 (ds := (List.range n).map fun k => shD (f k)) (z_var rfl)))]
    rw [List.map_map]
    rfl
  have hf : frz [.lst (valsL n f')] (.loc 0) = some (.list ((List.range n).map fun k => shD (f' k)), [.frz ((List.range n).map fun k => shD (f' k))]) := by
    have : valsL n f' = ((List.range n).map fun k => shD (f' k)).map .d := by rw [List.map_map]; rfl
    rw [this]
    show (match frzS 4 _ (.loc 0) with | some S1 => (match fzd S1 (.loc 0) with | some d => some (d, S1) | none => none) | none => none) = _
    rw [frzS_line (S := [.lst (((List.range n).map fun k => shD (f' k)).map .d)]) (k := 0) rfl]
    rfl
  exact z_runP rfl (z_seq e1 (z_seq (z_for (z_seqT (z_var rfl)) e) (z_rtL (z_var rfl) hf))) rfl
end
end DV
set_option Elab.async false
set_option linter.all false
set_option maxRecDepth 100000
set_option maxHeartbeats 4000000
namespace DV
open PySem
def commonL : DS := (whS 100000 (asB (bin gtI (var 1) (cst (.int 0)))) (parS [0, 1] (consL (var 1) (consL (bin modD (var 0) (var 1)) nilL))))
def commonD : DS := (seqS commonL (rtS (var 0)))
def commonF : FnP := runP 2 2 commonD
theorem euclid2 : ∀ (k a b f : Nat), b < 2 ^ k → 2 * k + 2 ≤ f → wgo (asB (bin gtI (var 1) (cst (.int 0)))) (parS [0, 1] (consL (var 1) (consL (bin modD (var 0) (var 1)) nilL))) f [some (.d (.int a)), some (.d (.int b))] [] = .nx [some (.d (.int (Nat.gcd a b : Nat))), some (.d (.int 0))] [] := by
  have stop : ∀ (a f : Nat), 1 ≤ f → wgo (asB (bin gtI (var 1) (cst (.int 0)))) (parS [0, 1] (consL (var 1) (consL (bin modD (var 0) (var 1)) nilL))) f [some (.d (.int a)), some (.d (.int (0 : Nat)))] [] = .nx [some (.d (.int (Nat.gcd a 0 : Nat))), some (.d (.int 0))] [] := by
    intro a f hf
    obtain ⟨g, rfl⟩ : ∃ g, f = g + 1 := ⟨f - 1, by omega⟩
    rw [Nat.gcd_zero_right]
    rfl
  have step : ∀ (a b f : Nat), 0 < b → wgo (asB (bin gtI (var 1) (cst (.int 0)))) (parS [0, 1] (consL (var 1) (consL (bin modD (var 0) (var 1)) nilL))) (f + 1) [some (.d (.int a)), some (.d (.int b))] [] = wgo (asB (bin gtI (var 1) (cst (.int 0)))) (parS [0, 1] (consL (var 1) (consL (bin modD (var 0) (var 1)) nilL))) f [some (.d (.int b)), some (.d (.int (a % b : Nat)))] [] := by
    intro a b f hb
    have c1 : asB (bin gtI (var 1) (cst (.int 0))) [some (.d (.int a)), some (.d (.int b))] [] = .ok true [] := z_asB (z_bin (z_var rfl) rfl (by
      have : (0 : Int) < b := by omega
      simp [gtI, cmpI]
      omega))
    have c2 : parS [0, 1] (consL (var 1) (consL (bin modD (var 0) (var 1)) nilL)) [some (.d (.int a)), some (.d (.int b))] [] = .nx [some (.d (.int b)), some (.d (.int (a % b : Nat)))] [] := z_par (z_cons (z_var rfl) (z_cons (x := .d (.int (a % b : Nat))) (z_bin (z_var rfl) (z_var rfl) (by
      have : (0 : Int) < b := by omega
      show (if (0 : Int) < b then some (PyData.int ((a : Int) % b)) else none) = _
      rw [if_pos this]
      simp)) z_nil)) rfl (by decide)
    show thenS _ _ _ = _
    rw [c1]
    simp only [thenS, if_true]
    rw [c2]
  intro k
  induction k with
  | zero =>
    intro a b f hb hf
    have : b = 0 := by omega
    subst this
    exact stop a f (by omega)
  | succ k ih =>
    intro a b f hb hf
    by_cases b0 : b = 0
    · subst b0
      exact stop a f (by omega)
    · obtain ⟨g, rfl⟩ : ∃ g, f = g + 2 := ⟨f - 2, by omega⟩
      rw [step a b (g + 1) (by omega)]
      by_cases r0 : a % b = 0
      · rw [r0, stop b (g + 1) (by omega), Nat.gcd_zero_right]
        rw [show Nat.gcd a b = b from by rw [Nat.gcd_comm, Nat.gcd_rec, r0, Nat.gcd_zero_left]]
      · have hr : a % b < b := Nat.mod_lt _ (by omega)
        rw [step b (a % b) g (by omega)]
        have hq : b % (a % b) < 2 ^ k := by
          have h1 : b % (a % b) < a % b := Nat.mod_lt _ (by omega)
          have h2 : b % (a % b) + (a % b) ≤ b := by
            have := Nat.div_add_mod b (a % b)
            have h3 : 1 ≤ b / (a % b) := Nat.div_pos (by omega) (by omega)
            have h4 : (a % b) * 1 ≤ (a % b) * (b / (a % b)) := Nat.mul_le_mul_left _ h3
            omega
          have : 2 ^ (k + 1) = 2 * 2 ^ k := by rw [Nat.pow_succ]; omega
          omega
        rw [ih (a % b) (b % (a % b)) g hq (by omega)]
        rw [show Nat.gcd a b = Nat.gcd (a % b) (b % (a % b)) from by
          rw [Nat.gcd_comm a b, Nat.gcd_rec b a]
          exact (Nat.gcd_rec (a % b) b).trans (Nat.gcd_comm _ _)]
theorem common_ok {a b : Nat} (hs : b.log2 < 8000) : commonF [.int a, .int b] = .ok (.int (Nat.gcd a b : Nat)) :=
  z_runP rfl (z_seq (euclid2 (b.log2 + 1) a b 100000 Nat.lt_log2_self (by omega)) (z_rt (z_var rfl))) rfl
def pshareD : DS :=
  (seqS (asgS 2 (callP commonF (consL (blt absD (consL (var 0) nilL)) (consL (var 1) nilL))))
  (rtS (tupE (consL (bin divD (var 0) (var 2)) (consL (bin divD (var 1) (var 2)) nilL)))))
def pshareF : FnP := runP 3 2 pshareD
theorem divD_gcd {t b : Int} (hb : 0 < b) (hs : b.natAbs.log2 < 8000) (z : Int) : divD (.int z) (.int (Nat.gcd t.natAbs b.natAbs : Nat)) = some (.int (z / (Nat.gcd t.natAbs b.natAbs : Nat))) := by
  have hk : b.natAbs < 2 ^ (b.natAbs.log2 + 1) := Nat.lt_log2_self
  have g0 : 0 < Nat.gcd t.natAbs b.natAbs := Nat.gcd_pos_of_pos_right _ (by omega)
  have g1 : Nat.gcd t.natAbs b.natAbs ≤ b.natAbs := Nat.le_of_dvd (by omega) (Nat.gcd_dvd_right _ _)
  have g2 : (Nat.gcd t.natAbs b.natAbs).log2 < 9000 := by
    have : (Nat.gcd t.natAbs b.natAbs).log2 ≤ b.natAbs.log2 := by
      have h := (Nat.log2_lt (show Nat.gcd t.natAbs b.natAbs ≠ 0 by omega)).mpr (Nat.lt_of_le_of_lt g1 hk)
      omega
    omega
  have h0 : (0 : Int) < (Nat.gcd t.natAbs b.natAbs : Nat) := by omega
  show (if decide ((0 : Int) < (Nat.gcd t.natAbs b.natAbs : Nat)) && decide ((((Nat.gcd t.natAbs b.natAbs : Nat) : Int)).natAbs.log2 < 9000) then some (PyData.int (z / (Nat.gcd t.natAbs b.natAbs : Nat))) else none) = _
  rw [decide_eq_true h0, Int.natAbs_natCast, decide_eq_true g2]
  rfl
theorem pshare_ok {t b : Int} (hb : 0 < b) (hs : b.natAbs.log2 < 8000) : pshareF [.int t, .int b] = .ok (shD (shareZ t b)) := by
  have a1 : (if t < 0 then -t else t) = (t.natAbs : Int) := by split <;> omega
  have a2 : b = (b.natAbs : Int) := by omega
  refine z_runP rfl (z_seq (z_asg (z_callP (ds := [.int t.natAbs, .int b.natAbs]) (z_consD (z_blt (ds := [.int t]) (z_consD (z_var rfl) z_nilD) (by show some (PyData.int (if t < 0 then -t else t)) = _; rw [a1])) (z_consD (z_var (by rw [← a2]; rfl)) z_nilD)) (common_ok hs)))
    (z_rt (S1 := []) (z_tup (ds := [_, _]) (z_consD (z_bin (z_var rfl) (z_var rfl) (divD_gcd hb hs t)) (z_consD (z_bin (z_var rfl) (z_var rfl) (divD_gcd hb hs b)) z_nilD)) (sz_ge 2 (by decide))))) rfl
def ptimesD : DS :=
  (rtS (callP pshareF (consL (bin mulD (ixE (var 0) (cst (.int 0))) (ixE (var 1) (cst (.int 0)))) (consL (bin mulD (ixE (var 0) (cst (.int 1))) (ixE (var 1) (cst (.int 1)))) nilL))))
def ptimesF : FnP := runP 2 2 ptimesD
def pplusD : DS :=
  (rtS (callP pshareF (consL (bin addD (bin mulD (ixE (var 0) (cst (.int 0))) (ixE (var 1) (cst (.int 1)))) (bin mulD (ixE (var 1) (cst (.int 0))) (ixE (var 0) (cst (.int 1))))) (consL (bin mulD (ixE (var 0) (cst (.int 1))) (ixE (var 1) (cst (.int 1)))) nilL))))
def pplusF : FnP := runP 2 2 pplusD
theorem ptimes_ok {p q : Int × Int} (hp : Sm p) (hq : Sm q) : ptimesF [shD p, shD q] = .ok (shD (timesZ p q)) := by
  refine z_runP rfl (z_rt (S1 := []) (z_callP (ds := [.int (p.1 * q.1), .int (p.2 * q.2)]) (z_consD (z_bin (z_ix (z_var rfl) rfl sh_0) (z_ix (z_var rfl) rfl sh_0) (mulD_log hp.1 hq.1)) (z_consD (z_bin (z_ix (z_var rfl) rfl sh_1) (z_ix (z_var rfl) rfl sh_1) (mulD_log hp.2.2 hq.2.2)) z_nilD)) (pshare_ok (Int.mul_pos hp.2.1 hq.2.1) ?_))) rfl
  have := @log_mul p.2 q.2
  have := hp.2.2
  have := hq.2.2
  omega
theorem pplus_ok {p q : Int × Int} (hp : Sm p) (hq : Sm q) : pplusF [shD p, shD q] = .ok (shD (plusZ p q)) := by
  refine z_runP rfl (z_rt (S1 := []) (z_callP (ds := [.int (p.1 * q.2 + q.1 * p.2), .int (p.2 * q.2)]) (z_consD (z_bin (z_bin (z_ix (z_var rfl) rfl sh_0) (z_ix (z_var rfl) rfl sh_1) (mulD_log hp.1 hq.2.2)) (z_bin (z_ix (z_var rfl) rfl sh_0) (z_ix (z_var rfl) rfl sh_1) (mulD_log hq.1 hp.2.2)) rfl) (z_consD (z_bin (z_ix (z_var rfl) rfl sh_1) (z_ix (z_var rfl) rfl sh_1) (mulD_log hp.2.2 hq.2.2)) z_nilD)) (pshare_ok (Int.mul_pos hp.2.1 hq.2.1) ?_))) rfl
  have := @log_mul p.2 q.2
  have := hp.2.2
  have := hq.2.2
  omega
def turnedShD : DS := (rtS (tupE (consL (ixE (var 0) (cst (.int 1))) (consL (ixE (var 0) (cst (.int 0))) nilL))))
def turnedShF : FnP := runP 1 1 turnedShD
theorem turnedSh_ok {p : Int × Int} : turnedShF [shD p] = .ok (shD (p.2, p.1)) :=
  z_runP rfl (z_rt (S1 := []) (z_tup (ds := [.int p.2, .int p.1]) (z_consD (z_ix (z_var rfl) rfl sh_1) (z_consD (z_ix (z_var rfl) rfl sh_0) z_nilD)) (sz_ge 2 (by decide)))) rfl
end DV
set_option Elab.async false
set_option linter.all false
set_option maxRecDepth 100000
set_option maxHeartbeats 4000000
namespace DV
open PySem
def MV : Int := 1000000000000000000000000000000000000000000000000000000000000000000000000000000000000000000000000000000000000000000000000000000000000000000000000000000000000000000000000000000000000000000000000000000000000000000000000000000000000000000000000000000000000000000000000000000000000000000000000000000000000
def shortD : DS :=
  (ifS (asB (bin gtI (blt maxD2 (consL (blt absD (consL (ixE (var 0) (cst (.int 0))) nilL)) (consL (ixE (var 0) (cst (.int 1))) nilL))) (cst (.int MV)))) (raS "TooGreat") nilS)
def shortF : FnP := runP 1 1 shortD
def great (p : Int × Int) : Bool := decide (MV < p.1.natAbs) || decide (MV < p.2)
def tooG : Exn := ⟨"TooGreat", []⟩
theorem short_ok {p : Int × Int} : shortF [shD p] = if great p then .er tooG else .ok .none := by
  have e1 : ∀ S, blt maxD2 (consL (blt absD (consL (ixE (var 0) (cst (.int 0))) nilL)) (consL (ixE (var 0) (cst (.int 1))) nilL)) [some (.d (shD p))] S = .ok (.d (.int (if p.2 > (p.1.natAbs : Int) then p.2 else (p.1.natAbs : Int)))) S := fun S => by
    have a1 : (if p.1 < 0 then -p.1 else p.1) = (p.1.natAbs : Int) := by split <;> omega
    exact z_blt (ds := [.int (p.1.natAbs : Int), .int p.2]) (z_consD (z_blt (ds := [.int p.1]) (z_consD (z_ix (z_var rfl) rfl sh_0) z_nilD) (by show some (PyData.int (if p.1 < 0 then -p.1 else p.1)) = _; rw [a1])) (z_consD (z_ix (z_var rfl) rfl sh_1) z_nilD)) rfl
  have e2 : asB (bin gtI (blt maxD2 (consL (blt absD (consL (ixE (var 0) (cst (.int 0))) nilL)) (consL (ixE (var 0) (cst (.int 1))) nilL))) (cst (.int MV))) [some (.d (shD p))] [] = .ok (great p) [] := by
    refine z_asB (z_bin (e1 []) rfl ?_)
    show some (PyData.bool (decide (MV < if p.2 > (p.1.natAbs : Int) then p.2 else (p.1.natAbs : Int)))) = _
    congr 2
    unfold great
    by_cases c : p.2 > (p.1.natAbs : Int)
    · rw [if_pos c]
      by_cases d : MV < p.2
      · simp [d]
      · have d2 : ¬ MV < (p.1.natAbs : Int) := by omega
        rw [decide_eq_false d, decide_eq_false d2]; rfl
    · rw [if_neg c]
      by_cases d : MV < (p.1.natAbs : Int)
      · rw [decide_eq_true d]; rfl
      · have d2 : ¬ MV < p.2 := by omega
        rw [decide_eq_false d, decide_eq_false d2]; rfl
  cases h : great p with
  | true =>
    rw [h] at e2
    exact z_runP rfl (z_ifT e2 rfl) rfl
  | false =>
    rw [h] at e2
    exact z_runP rfl (z_ifF e2 rfl) rfl
theorem MV_log {a : Nat} (h : (a : Int) ≤ MV) : a.log2 < 1000 := by
  by_cases z : a = 0
  · rw [z]; decide
  · refine (Nat.log2_lt z).mpr (Nat.lt_of_le_of_lt (show a ≤ MV.toNat by omega) ?_)
    decide +kernel
theorem great_sm {p : Int × Int} (h : great p = false) (h2 : 0 < p.2) : Sm p := by
  unfold great at h
  rw [Bool.or_eq_false_iff, decide_eq_false_iff_not, decide_eq_false_iff_not] at h
  have h1 := MV_log (a := p.1.natAbs) (by omega)
  have h3 := MV_log (a := p.2.natAbs) (by omega)
  exact ⟨by omega, h2, by omega⟩
def powG (v : Shr) : Nat → Shr → Option Shr
  | 0, p => some p
  | k + 1, p => if great (timesZ p v) then none else powG v k (timesZ p v)
def prodG : List (Shr × Nat) → Shr → Option Shr
  | [], p => some p
  | (v, k) :: l, p => (powG v k p).bind (prodG l)
theorem timesZ_pos {p q : Shr} (hp : 0 < p.2) (hq : 0 < q.2) : 0 < (timesZ p q).2 := shareZ_pos (Int.mul_pos hp hq)
def prodB : DS := (seqS (asgS 2 (callP ptimesF (consL (var 2) (consL (var 3) nilL))))
  (exS (callP shortF (consL (var 2) nilL))))
def prodD : DS :=
  (seqS (asgS 2 (cst (.tuple (List.map PyData.int [1, 1]))))
  (seqS (forS (zipI (consL (var 0) (consL (var 1) nilL))) (.tp [3, 4]) (forS (rng1 (consL (var 4) nilL)) (.nm 5) prodB))
  (rtS (var 2))))
def prodF : FnP := runP 6 2 prodD
def prodSl (a b : Val) (p : Shr) (v k t : Option Val) : Sl := [some a, some b, some (.d (shD p)), v, k, t]
theorem prodB_ok {a b : Val} {p v : Shr} {k t : Option Val} (hp : Sm p) (hv : Sm v) :
    prodB (prodSl a b p (some (.d (shD v))) k t) [] = if great (timesZ p v) then .er tooG (prodSl a b (timesZ p v) (some (.d (shD v))) k t) [] else .nx (prodSl a b (timesZ p v) (some (.d (shD v))) k t) [] := by
  have e1 : asgS 2 (callP ptimesF (consL (var 2) (consL (var 3) nilL))) (prodSl a b p (some (.d (shD v))) k t) [] = .nx (prodSl a b (timesZ p v) (some (.d (shD v))) k t) [] :=
    z_asg (z_callP (ds := [shD p, shD v]) (z_consD (z_var rfl) (z_consD (z_var rfl) z_nilD)) (ptimes_ok hp hv))
  refine z_seq e1 ?_
  cases h : great (timesZ p v) with
  | false => exact z_ex (z_callP (ds := [shD (timesZ p v)]) (z_consD (z_var rfl) z_nilD) (by rw [short_ok, h]; rfl))
  | true =>
    have e : shortF [shD (timesZ p v)] = .er tooG := by rw [short_ok, h]; rfl
    show thenS ((consL (var 2) nilL (prodSl a b (timesZ p v) (some (.d (shD v))) k t) []).bind fun xs S1 => match frzL S1 xs with
      | some (ds, S2) => (match shortF ds with | .ok x => R.ok (Val.d x) S2 | .er e => .er e S2 | .bad => .bad)
      | none => .bad) _ _ = _
    rw [z_consD (ds := []) (z_var (x := .d (shD (timesZ p v))) rfl) z_nilD]
    simp only [R.bind, frzL_d, e, thenS]
    rfl
theorem fgo_er {tg : Nat} {g : DS} {d : PyData} {ds : List PyData} {sl sl2 : Sl} {S S2 : Sto} {e : Exn} (h : g (sl.set tg (some (.d d))) S = .er e sl2 S2) : fgo (.nm tg) g (d :: ds) sl S = .er e sl2 S2 := by
  unfold fgo
  simp only [setT]
  rw [h]
theorem fgo_stepN {tg : Tg} {g : DS} {d : PyData} {ds : List PyData} {sl sl1 sl2 : Sl} {S S2 : Sto} {r : RS} (hs : setT tg d sl = some sl1) (h : g sl1 S = .nx sl2 S2) (h2 : fgo tg g ds sl2 S2 = r) : fgo tg g (d :: ds) sl S = r := by
  show (match setT tg d sl with | none => RS.bad | some sl1 => (match g sl1 S with | .nx sl2 S2 => fgo tg g ds sl2 S2 | .ct sl2 S2 => fgo tg g ds sl2 S2 | .bk sl2 S2 => .nx sl2 S2 | .rt d S2 => .rt d S2 | .er e sl2 S2 => .er e sl2 S2 | .bad => .bad)) = r
  rw [hs]
  dsimp only
  rw [h]
  exact h2
theorem fgo_stepE {tg : Tg} {g : DS} {d : PyData} {ds : List PyData} {sl sl1 sl2 : Sl} {S S2 : Sto} {e : Exn} (hs : setT tg d sl = some sl1) (h : g sl1 S = .er e sl2 S2) : fgo tg g (d :: ds) sl S = .er e sl2 S2 := by
  show (match setT tg d sl with | none => RS.bad | some sl1 => (match g sl1 S with | .nx sl2 S2 => fgo tg g ds sl2 S2 | .ct sl2 S2 => fgo tg g ds sl2 S2 | .bk sl2 S2 => .nx sl2 S2 | .rt d S2 => .rt d S2 | .er e sl2 S2 => .er e sl2 S2 | .bad => .bad)) = _
  rw [hs]
  dsimp only
  rw [h]
theorem powG_go {a b : Val} {v : Shr} {k : Option Val} (hv : Sm v) : ∀ (l : List PyData) (p : Shr) (t : Option Val), Sm p →
    match powG v l.length p with
    | some q => Sm q ∧ ∃ t', fgo (.nm 5) prodB l (prodSl a b p (some (.d (shD v))) k t) [] = .nx (prodSl a b q (some (.d (shD v))) k t') []
    | none => ∃ sl, fgo (.nm 5) prodB l (prodSl a b p (some (.d (shD v))) k t) [] = .er tooG sl [] := by
  intro l
  induction l with
  | nil =>
    intro p t hp
    exact ⟨hp, t, rfl⟩
  | cons d l ih =>
    intro p t hp
    have e1 := prodB_ok (a := a) (b := b) (k := k) (t := some (.d d)) hp hv
    show match (if great (timesZ p v) then none else powG v l.length (timesZ p v)) with | some q => _ | none => _
    cases h : great (timesZ p v) with
    | true =>
      rw [h] at e1
      exact ⟨_, fgo_er e1⟩
    | false =>
      rw [h] at e1
      have hq : Sm (timesZ p v) := great_sm h (timesZ_pos hp.2.1 hv.2.1)
      have ih2 := ih (timesZ p v) (some (.d d)) hq
      simp only [Bool.false_eq_true, if_false]
      cases h2 : powG v l.length (timesZ p v) with
      | none =>
        rw [h2] at ih2
        obtain ⟨sl, e⟩ := ih2
        exact ⟨sl, fgo_cons e1 e⟩
      | some q =>
        rw [h2] at ih2
        obtain ⟨hq2, t', e⟩ := ih2
        exact ⟨hq2, t', fgo_cons e1 e⟩
def itemsG (l : List (Shr × Nat)) : List PyData := l.map fun z => .tuple [shD z.1, .int (z.2 : Nat)]
theorem prodG_go {a b : Val} : ∀ (l : List (Shr × Nat)) (p : Shr) (v k t : Option Val), Sm p → (∀ z ∈ l, Sm z.1 ∧ z.2 ≤ 1000000) →
    match prodG l p with
    | some q => Sm q ∧ ∃ v' k' t', fgo (.tp [3, 4]) (forS (rng1 (consL (var 4) nilL)) (.nm 5) prodB) (itemsG l) (prodSl a b p v k t) [] = .nx (prodSl a b q v' k' t') []
    | none => ∃ sl, fgo (.tp [3, 4]) (forS (rng1 (consL (var 4) nilL)) (.nm 5) prodB) (itemsG l) (prodSl a b p v k t) [] = .er tooG sl [] := by
  intro l
  induction l with
  | nil =>
    intro p v k t hp _
    exact ⟨hp, v, k, t, rfl⟩
  | cons z l ih =>
    intro p v k t hp hl
    obtain ⟨hv, hk⟩ := hl z List.mem_cons_self
    have e0 : rng1 (consL (var 4) nilL) (prodSl a b p (some (.d (shD z.1))) (some (.d (.int (z.2 : Nat)))) t) [] = .ok (rangeL 0 z.2) [] := rng1_ok (z_cons (z_var rfl) z_nil) hk
    have g := powG_go (a := a) (b := b) (k := some (.d (.int (z.2 : Nat)))) hv (rangeL 0 z.2) p t hp
    rw [rangeL_length] at g
    have es : setT (.tp [3, 4]) (.tuple [shD z.1, .int (z.2 : Nat)]) (prodSl a b p v k t) = some (prodSl a b p (some (.d (shD z.1))) (some (.d (.int (z.2 : Nat)))) t) := rfl
    show match (powG z.1 z.2 p).bind (prodG l) with | some q => _ | none => _
    cases h : powG z.1 z.2 p with
    | none =>
      rw [h] at g
      obtain ⟨sl, e⟩ := g
      exact ⟨sl, fgo_stepE es (z_for e0 e)⟩
    | some q =>
      rw [h] at g
      obtain ⟨hq, t', e⟩ := g
      have ih2 := ih q (some (.d (shD z.1))) (some (.d (.int (z.2 : Nat)))) t' hq fun z hz => hl z (List.mem_cons_of_mem _ hz)
      show match prodG l q with | some q => _ | none => _
      cases h2 : prodG l q with
      | none =>
        rw [h2] at ih2
        obtain ⟨sl, e2⟩ := ih2
        exact ⟨sl, fgo_stepN es (z_for e0 e) e2⟩
      | some q2 =>
        rw [h2] at ih2
        obtain ⟨hq2, v', k', t2, e2⟩ := ih2
        exact ⟨hq2, v', k', t2, fgo_stepN es (z_for e0 e) e2⟩
theorem zip_items (l : List (Shr × Nat)) : zipP (l.map fun z => shD z.1) (l.map fun z => .int (z.2 : Nat)) = itemsG l := by
  unfold zipP itemsG
  induction l with
  | nil => rfl
  | cons z l ih => simp only [List.map_cons, List.zipWith_cons_cons, ih]
theorem prod_ok {l : List (Shr × Nat)} (hl : ∀ z ∈ l, Sm z.1 ∧ z.2 ≤ 1000000) : prodF [.list (l.map fun z => shD z.1), .list (l.map fun z => .int (z.2 : Nat))] = match prodG l (1, 1) with
    | some q => .ok (shD q)
    | none => .er tooG := by
  have h1 : Sm (1, 1) := ⟨by decide, by decide, by decide⟩
  have g := prodG_go (a := .d (.list (l.map fun z => shD z.1))) (b := .d (.list (l.map fun z => .int (z.2 : Nat)))) l (1, 1) none none none h1 hl
  have e0 : zipI (consL (var 0) (consL (var 1) nilL)) (prodSl (.d (.list (l.map fun z => shD z.1))) (.d (.list (l.map fun z => .int (z.2 : Nat)))) (1, 1) none none none) [] = .ok (itemsG l) [] := by
    show (consL (var 0) (consL (var 1) nilL) _ _).bind _ = _
    rw [z_consD (d := .list (l.map fun z => shD z.1)) (ds := [.list (l.map fun z => .int (z.2 : Nat))]) (z_var rfl) (z_consD (z_var rfl) z_nilD)]
    simp only [R.bind, frzL_d]
    rw [zip_items]
  have e1 : asgS 2 (cst (.tuple (List.map PyData.int [1, 1]))) (slots 6 [.d (.list (l.map fun z => shD z.1)), .d (.list (l.map fun z => .int (z.2 : Nat)))]) [] = .nx (prodSl (.d (.list (l.map fun z => shD z.1))) (.d (.list (l.map fun z => .int (z.2 : Nat)))) (1, 1) none none none) [] := rfl
  cases h : prodG l (1, 1) with
  | some q =>
    rw [h] at g
    obtain ⟨_, v, k, t, e⟩ := g
    exact z_runP rfl (z_seq e1 (z_seq (z_for e0 e) (z_rt (z_var rfl)))) rfl
  | none =>
    rw [h] at g
    obtain ⟨sl, e⟩ := g
    refine z_runP (r := .er tooG sl []) rfl (z_seq e1 ?_) rfl
    show (match forS _ _ _ _ _ with | .nx sl' S' => rtS (var 2) sl' S' | r => r) = _
    rw [z_for e0 e]
end DV
set_option Elab.async false
set_option linter.all false
set_option maxRecDepth 100000
set_option maxHeartbeats 4000000
namespace DV
open PySem
def addedD : DS :=
  (rtS (bin divD (bin addD (bin mulD (blt absD (consL (var 0) nilL)) (var 1)) (bin mulD (var 0) (blt absD (consL (var 1) nilL)))) (cst (.int 2))))
def addedF : FnP := runP 2 2 addedD
def addZ (l r : Int) : Int := if 0 < l ∧ 0 < r then l * r else if l < 0 ∧ r < 0 then 0 - l * r else 0
theorem addZ_eq (l r : Int) : ((l.natAbs : Int) * r + l * (r.natAbs : Int)) / 2 = addZ l r := by
  unfold addZ
  by_cases c1 : 0 < l ∧ 0 < r
  · rw [if_pos c1]
    have e1 : (l.natAbs : Int) = l := by omega
    have e2 : (r.natAbs : Int) = r := by omega
    rw [e1, e2]
    generalize l * r = z
    omega
  · rw [if_neg c1]
    by_cases c2 : l < 0 ∧ r < 0
    · rw [if_pos c2]
      have e1 : (l.natAbs : Int) = -l := by omega
      have e2 : (r.natAbs : Int) = -r := by omega
      rw [e1, e2, Int.neg_mul, Int.mul_neg]
      generalize l * r = z
      omega
    · rw [if_neg c2]
      by_cases l0 : l = 0
      · subst l0; simp
      · by_cases r0 : r = 0
        · subst r0; simp
        · by_cases l1 : 0 < l
          · have e1 : (l.natAbs : Int) = l := by omega
            have e2 : (r.natAbs : Int) = -r := by omega
            rw [e1, e2, Int.mul_neg]
            generalize l * r = z
            omega
          · have e1 : (l.natAbs : Int) = -l := by omega
            have e2 : (r.natAbs : Int) = r := by omega
            rw [e1, e2, Int.neg_mul]
            generalize l * r = z
            omega
theorem added_ok {l r : Int} (h1 : -1000000 ≤ l) (h2 : l ≤ 1000000) (h3 : -1000000 ≤ r) (h4 : r ≤ 1000000) : addedF [.int l, .int r] = .ok (.int (addZ l r)) := by
  have ab : ∀ z : Int, absD [.int z] = some (.int (z.natAbs : Int)) := fun z => by
    have : (if z < 0 then -z else z) = (z.natAbs : Int) := by split <;> omega
    show some (PyData.int (if z < 0 then -z else z)) = _
    rw [this]
  refine z_runP rfl (z_rt (S1 := []) (z_bin (z_bin (z_bin (z_blt (ds := [.int l]) (z_consD (z_var rfl) z_nilD) (ab l)) (z_var rfl) (mulD_small (by omega) (by omega) h3 h4)) (z_bin (z_var rfl) (z_blt (ds := [.int r]) (z_consD (z_var rfl) z_nilD) (ab r)) (mulD_small h1 h2 (by omega) (by omega))) rfl) rfl ?_)) rfl
  have h9 : Nat.log2 2 < 9000 := by decide +kernel
  show (if decide ((0 : Int) < 2) && decide ((2 : Int).natAbs.log2 < 9000) then some (PyData.int (((l.natAbs : Int) * r + l * (r.natAbs : Int)) / 2)) else none) = _
  rw [if_pos (by decide +kernel), addZ_eq]
theorem turnM_add {M : Nat → Nat → Int} {b : Int} (hs : Skew b M) (x y z : Nat) : turnM M x y z = if y = x ∨ z = x then 0 - M y z else M y z + addZ (M y x) (M x z) := by
  unfold turnM
  by_cases c : y = x ∨ z = x
  · rw [if_pos c, if_pos c]
  · rw [if_neg c, if_neg c]
    have s1 := (hs x z).1
    have s2 := (hs y x).1
    unfold thr addZ
    rw [s1, s2]
    by_cases c1 : 0 < M y x ∧ 0 < M x z
    · rw [if_pos c1, if_pos c1, if_neg (by omega)]; omega
    · rw [if_neg c1, if_neg c1]
      by_cases c2 : M y x < 0 ∧ M x z < 0
      · rw [if_pos c2, if_pos (by omega), Int.neg_mul_neg, Int.mul_comm (M x z)]; omega
      · rw [if_neg c2, if_neg (by omega)]; omega
end DV
set_option Elab.async false
set_option linter.all false
set_option maxRecDepth 100000
set_option maxHeartbeats 4000000
namespace DV
open PySem
theorem z_app {fo : DE} {la : DL} {sl : Sl} {S : Sto} {k : Nat} {xs : List Val} {y : Val} (h : fo sl S = .ok (.loc k) S) (h2 : la sl S = .ok [y] S) (hk : S[k]? = some (.lst xs)) (hl : xs.length < sizeLine) : metE appM fo la sl S = .ok (.d .none) (S.set k (.lst (xs ++ [y]))) := by
  unfold metE
  rw [h]
  simp only [R.bind, lstAt, hk]
  rw [h2]
  simp only [hk, appM, if_pos hl]
def frozenD : DS := (rtS (blt tupD (consL (frzE (lcF [1] (seqI (var 0)) (.nm 1) yes (blt tupD (consL (var 1) nilL)))) nilL)))
def frozenF : FnP := runP 2 1 frozenD
theorem frozen_ok {n : Nat} {T : Nat → Nat → Int} (hn : n ≤ 1000) : frozenF [.list ((List.range n).map fun i => .list (linD n (T i)))] = .ok (webD n T) := by
  have c1 : seqI (var 0) (slots 2 [.d (.list ((List.range n).map fun i => .list (linD n (T i))))]) [] = .ok ((List.range n).map fun i => .list (linD n (T i))) [] := z_seqL (z_var rfl)
  have c2 := lcGo_yes (slot := 1) (el := blt tupD (consL (var 1) nilL)) (sl := wipeS (slots 2 [.d (.list ((List.range n).map fun i => .list (linD n (T i))))]) [1]) (S := []) (f := tupOf) ((List.range n).map fun i => .list (linD n (T i))) 0 (fun d hd => by
    obtain ⟨i, _, rfl⟩ := List.mem_map.mp hd
    exact z_blt (ds := [.list (linD n (T i))]) (z_consD (z_var rfl) z_nilD) rfl) (by rw [List.length_map, List.length_range, Nat.zero_add]; exact sz_ge n hn)
  have c3 := z_lc (own := [1]) c1 c2
  rw [tup_map] at c3
  exact z_runP rfl (z_rt (z_blt (z_consD (z_frzE c3) z_nilD) rfl)) rfl
theorem inD_two (x y z : Int) : inD (.int x) (.tuple [.int y, .int z]) = some (.bool (decide (y = x) || decide (z = x))) := by
  unfold inD
  simp [SeqAt.shaped, PyData.canLay0, PyData.canLayAll0, PyData.depth, PyData.depthAll, PyData.eqv]
  rfl
def behindE : DE := (ifE (asB (bin inD (var 1) (tupE (consL (var 4) (consL (var 5) nilL))))) (un negD (ixE (ixE (var 0) (var 4)) (var 5))) (bin addD (ixE (ixE (var 0) (var 4)) (var 5)) (callP addedF (consL (ixE (ixE (var 0) (var 4)) (var 1)) (consL (ixE (ixE (var 0) (var 1)) (var 5)) nilL)))))
def behindB : DS := (exS (metE appM (var 3) (consL (frzE (lcF [5] (rng1 (consL (var 2) nilL)) (.nm 5) yes behindE)) nilL)))
def behindD : DS :=
  (seqS (parS [2, 3] (consL (blt lenD (consL (var 0) nilL)) (consL (ownE (szF nilL)) nilL)))
  (seqS (forS (rng1 (consL (var 2) nilL)) (.nm 4) behindB)
  (rtS (callP frozenF (consL (var 3) nilL)))))
def behindF : FnP := runP 6 2 behindD
def behindSl (n x : Nat) (M : Nat → Nat → Int) (y z : Option Val) : Sl := [some (.d (webD n M)), some (.d (.int x)), some (.d (.int n)), some (.loc 0), y, z]
def behindL (n x : Nat) (M : Nat → Nat → Int) (k : Nat) : List PyData := (List.range k).map fun i => .list (linD n (turnM M x i))
section
variable {n x y z : Nat} {M : Nat → Nat → Int} {b : Int}
theorem behindE_ok (hs : Skew b M) (hb : b ≤ 1000000) (hx : x < n) (hy : y < n) (hz : z < n) {S : Sto} : behindE (behindSl n x M (some (.d (.int y))) (some (.d (.int z)))) S = .ok (.d (.int (turnM M x y z))) S := by
  have s1 := hs y x
  have s2 := hs x z
  have e1 : asB (bin inD (var 1) (tupE (consL (var 4) (consL (var 5) nilL)))) (behindSl n x M (some (.d (.int y))) (some (.d (.int z)))) S = .ok (decide ((y : Int) = x) || decide ((z : Int) = x)) S :=
    z_asB (z_bin (z_var rfl) (z_tup (ds := [.int y, .int z]) (z_consD (z_var rfl) (z_consD (z_var rfl) z_nilD)) (sz_ge 2 (by decide))) (inD_two _ _ _))
  have e2 : ixE (ixE (var 0) (var 4)) (var 5) (behindSl n x M (some (.d (.int y))) (some (.d (.int z)))) S = .ok (.d (.int (M y z))) S := web_at (M := M) (z_var rfl) (z_var rfl) (z_var rfl) hy hz
  rw [turnM_add hs]
  by_cases c : y = x ∨ z = x
  · have : (decide ((y : Int) = x) || decide ((z : Int) = x)) = true := by
      rw [Bool.or_eq_true, decide_eq_true_eq, decide_eq_true_eq]; omega
    rw [this] at e1
    rw [if_pos c]
    refine z_ifeT e1 (z_un e2 ?_)
    show some (PyData.int (-(M y z))) = _
    rw [Int.zero_sub]
  · have : (decide ((y : Int) = x) || decide ((z : Int) = x)) = false := by
      rw [Bool.or_eq_false_iff, decide_eq_false_iff_not, decide_eq_false_iff_not]; omega
    rw [this] at e1
    rw [if_neg c]
    exact z_ifeF e1 (z_bin e2 (z_callP (ds := [.int (M y x), .int (M x z)]) (z_consD (web_at (M := M) (z_var rfl) (z_var rfl) (z_var rfl) hy hx) (z_consD (web_at (M := M) (z_var rfl) (z_var rfl) (z_var rfl) hx hz) z_nilD)) (added_ok (by omega) (by omega) (by omega) (by omega))) rfl)
theorem behind_ok (hs : Skew b M) (hb : b ≤ 1000000) (hn : n ≤ 1000) (hx : x < n) : behindF [webD n M, .int x] = .ok (webD n (turnM M x)) := by
  have e1 : parS [2, 3] (consL (blt lenD (consL (var 0) nilL)) (consL (ownE (szF nilL)) nilL)) (slots 6 [.d (webD n M), .d (.int x)]) [] = .nx (behindSl n x M none none) [.lst ((behindL n x M 0).map .d)] :=
    z_par (z_cons (x := .d (.int n)) (z_blt (ds := [webD n M]) (z_consD (z_var rfl) z_nilD) (by show some (PyData.int _) = _; rw [web_len])) (z_cons (z_own (S1 := []) (z_sz z_nil (sz_ge 0 (by decide)))) z_nil)) rfl (by decide)
  obtain ⟨sl', S', e2, y, rfl, rfl⟩ := fgo_range0 (slot := 4) (g := behindB) (cnt := n) (P := fun k sl S => ∃ y, sl = behindSl n x M y none ∧ S = [.lst ((behindL n x M k).map .d)]) (fun k sl S hk hp => by
    obtain ⟨y, rfl, rfl⟩ := hp
    have c1 : rng1 (consL (var 2) nilL) (behindSl n x M (some (.d (.int k))) none) [.lst ((behindL n x M k).map .d)] = .ok (rangeL 0 n) [.lst ((behindL n x M k).map .d)] := rng1_ok (z_cons (z_var rfl) z_nil) (by omega)
    have c2 := lcGo_yes (slot := 5) (el := behindE) (sl := wipeS (behindSl n x M (some (.d (.int k))) none) [5]) (S := [.lst ((behindL n x M k).map .d)]) (f := fun d => match d with | .int z => .int (turnM M x k z.toNat) | d => d) (rangeL 0 n) 0 (fun d hd => by
      obtain ⟨z, hz, rfl⟩ := mem_rangeL hd
      exact behindE_ok hs hb hx hk hz) (by rw [rangeL_length]; exact sz_ge _ (by omega))
    have c3 := z_lc (own := [5]) c1 c2
    have el : (rangeL 0 n).map (fun d => match d with | PyData.int z => PyData.int (turnM M x k z.toNat) | d => d) = linD n (turnM M x k) := by
      unfold rangeL linD
      rw [List.map_map]
      apply List.map_congr_left
      intro z _
      show PyData.int (turnM M x k ((0 : Int) + (z : Nat)).toNat) = _
      rw [Int.zero_add, Int.toNat_natCast]
    rw [el] at c3
    refine ⟨behindSl n x M (some (.d (.int k))) none, _, z_ex (z_app (k := 0) (z_var rfl) (z_cons (z_frzE c3) z_nil) rfl ?_), some (.d (.int k)), rfl, ?_⟩
    · rw [List.length_map]
      unfold behindL
      rw [List.length_map, List.length_range, sizeLine_eq]; omega
    · unfold behindL
      rw [List.range_succ, List.map_append, List.map_append]
      rfl) (sl := behindSl n x M none none) (S := [.lst ((behindL n x M 0).map .d)]) ⟨none, rfl, rfl⟩
  refine z_runP rfl (z_seq e1 (z_seq (z_for (rng1_ok (k := n) (z_cons (z_var rfl) z_nil) (by omega)) e2) (z_rt (d := webD n (turnM M x)) (S1 := [.frz (behindL n x M n)]) ?_))) rfl
  show (consL (var 3) nilL _ _).bind _ = _
  rw [z_cons (x := .loc 0) (z_var rfl) z_nil]
  have hf : frzL [.lst ((behindL n x M n).map .d)] [.loc 0] = some ([.list (behindL n x M n)], [.frz (behindL n x M n)]) := by
    show (match frz [.lst ((behindL n x M n).map .d)] (.loc 0) with | some (d, S1) => (match frzL S1 [] with | some (ds, S2) => some (d :: ds, S2) | none => none) | none => none) = _
    have : frz [.lst ((behindL n x M n).map .d)] (.loc 0) = some (.list (behindL n x M n), [.frz (behindL n x M n)]) := by
      show (match frzS 4 _ (.loc 0) with | some S1 => (match fzd S1 (.loc 0) with | some d => some (d, S1) | none => none) | none => none) = _
      rw [frzS_line (S := [.lst ((behindL n x M n).map .d)]) (k := 0) rfl]
      rfl
    rw [this]
    rfl
  simp only [R.bind, hf]
  have := frozen_ok (n := n) (T := turnM M x) hn
  unfold behindL
  rw [this]
end
end DV
set_option Elab.async false
set_option linter.all false
set_option maxRecDepth 100000
set_option maxHeartbeats 4000000
namespace DV
open PySem
theorem zerosP_ok {own : List Nat} {slot i k : Nat} {n : Nat} {sl : Sl} {S : Sto} (hk : sl[k]? = some (some (.d (.int n)))) (hi : ((wipeS sl own).set slot none)[i]? = some (some (.d (.int n))) ∧ slot ≠ i) (hn : n ≤ 1000) :
    ownE (lcF own (rng1 (consL (var k) nilL)) (.nm slot) yes (ownE (repF (frzE (szF (consL (cst (.int 0)) nilL))) (var i)))) sl S = .ok (.loc (S.length + n)) (matP S n fun _ _ => 0) := by
  have c1 : rng1 (consL (var k) nilL) sl S = .ok (rangeL 0 n) S := rng1_ok (z_cons (z_var hk) z_nil) (by omega)
  have c2 := lcGo_own (slot := slot) (el := ownE (repF (frzE (szF (consL (cst (.int 0)) nilL))) (var i))) (sl := wipeS sl own) (ob := fun _ => .lst (linV n fun _ => 0)) (rangeL 0 n) 0 S (fun d hd S => rep0_ok (by
    have h := hi.1
    rw [List.getElem?_set_ne hi.2] at h ⊢
    exact h) hn) (by rw [rangeL_length, Nat.zero_add]; exact sz_ge n hn)
  rw [z_own (z_lc c1 c2)]
  have q1 : S ++ (rangeL 0 n).map (fun _ => Ob.lst (linV n fun _ => 0)) ++ [Ob.lst ((List.range' S.length (rangeL 0 n).length).map .loc)] = matP S n fun _ _ => 0 := by
    unfold matP
    rw [rangeL_length]
    simp [rangeL, List.range'_eq_map_range, Function.comp_def]
  have q2 : (S ++ (rangeL 0 n).map (fun _ => Ob.lst (linV n fun _ => 0))).length = S.length + n := by
    simp [rangeL_length]
  rw [q1, q2]
def nameM (M : Nat → Nat → Int) (inv : Nat → Nat) : Nat → Nat → Int := fun a b => M (inv a) (inv b)
def nameT (M : Nat → Nat → Int) (inv : Nat → Nat) (y z : Nat) : Nat → Nat → Int := fun a b => if inv a < y ∨ (inv a = y ∧ inv b < z) then M (inv a) (inv b) else 0
/-- an order and its inverse -/
structure Ord (n : Nat) (od : PyData) (ord inv : Nat → Nat) : Prop where
  get : ∀ y, y < n → ∀ S : Sto, ixV S (.d od) (.d (.int y)) = .ok (.d (.int (ord y : Nat))) S
  lt : ∀ y, y < n → ord y < n
  ltI : ∀ y, y < n → inv y < n
  oi : ∀ y, y < n → ord (inv y) = y
  io : ∀ y, y < n → inv (ord y) = y
def nameB : DS := (putS (ixE (ixE (var 0) (var 4)) (var 5)) (ixE (var 3) (ixE (var 1) (var 4))) (ixE (var 1) (var 5)))
def nameL : DS := (forS (rng1 (consL (var 2) nilL)) (.nm 4) (forS (rng1 (consL (var 2) nilL)) (.nm 5) nameB))
def nameSl (n : Nat) (M : Nat → Nat → Int) (od : PyData) (y z : Option Val) (r : List (Option Val)) : Sl := some (.d (webD n M)) :: some (.d od) :: some (.d (.int n)) :: some (.loc (([] : Sto).length + n)) :: y :: z :: r
section
variable {n y z : Nat} {M : Nat → Nat → Int} {od : PyData} {ord inv : Nat → Nat} {r : List (Option Val)}
theorem nameB_ok (O : Ord n od ord inv) (hy : y < n) (hz : z < n) : nameB (nameSl n M od (some (.d (.int y))) (some (.d (.int z))) r) (matP [] n (nameT M inv y z)) = .nx (nameSl n M od (some (.d (.int y))) (some (.d (.int z))) r) (matP [] n (nameT M inv y (z + 1))) := by
  have en : matP [] n (nameT M inv y (z + 1)) = matP [] n (upd2 (nameT M inv y z) (ord y) (ord z) (M y z)) := matP_ext fun a b ha hb => by
    unfold nameT upd2
    by_cases h : a = ord y ∧ b = ord z
    · obtain ⟨rfl, rfl⟩ := h
      rw [O.io y hy, O.io z hz, if_pos (by omega), if_pos ⟨rfl, rfl⟩]
    · rw [if_neg h]
      have g : (inv a < y ∨ (inv a = y ∧ inv b < z + 1)) ↔ (inv a < y ∨ (inv a = y ∧ inv b < z)) := by
        constructor
        · rintro (q | ⟨q1, q2⟩)
          · exact .inl q
          · by_cases q3 : inv b = z
            · exfalso
              exact h ⟨by rw [← O.oi a ha, q1], by rw [← O.oi b hb, q3]⟩
            · exact .inr ⟨q1, by omega⟩
        · omega
      simp only [g]
  rw [en]
  exact z_put (web_at (M := M) (z_var rfl) (z_var rfl) (z_var rfl) hy hz) (z_ix (z_var rfl) (z_ix (z_var rfl) (z_var rfl) (O.get y hy _)) (matP_ix (O.lt y hy))) (z_ix (z_var rfl) (z_var rfl) (O.get z hz _)) (matP_put (O.lt y hy) (O.lt z hz))
theorem nameL_ok (O : Ord n od ord inv) (hn : n ≤ 1000) {y0 z0 : Option Val} : ∃ y z, nameL (nameSl n M od y0 z0 r) (matP [] n fun _ _ => 0) = .nx (nameSl n M od y z r) (matP [] n (nameM M inv)) := by
  have e0 : matP [] n (fun _ _ => 0) = matP [] n (nameT M inv 0 0) := matP_ext fun a b _ _ => by
    unfold nameT
    rw [if_neg (by omega)]
  obtain ⟨sl', S', e, y, z, rfl, rfl⟩ := fgo_range0 (slot := 4) (g := forS (rng1 (consL (var 2) nilL)) (.nm 5) nameB) (cnt := n) (P := fun k sl S => ∃ y z, sl = nameSl n M od y z r ∧ S = matP [] n (nameT M inv k 0)) (fun k sl S hk hp => by
    obtain ⟨y, z, rfl, rfl⟩ := hp
    obtain ⟨sl', S', e, z2, rfl, rfl⟩ := fgo_range0 (slot := 5) (g := nameB) (cnt := n) (P := fun j sl S => ∃ z, sl = nameSl n M od (some (.d (.int k))) z r ∧ S = matP [] n (nameT M inv k j)) (fun j sl S hj hp => by
      obtain ⟨z, rfl, rfl⟩ := hp
      exact ⟨_, _, nameB_ok O hk hj, some (.d (.int j)), rfl, rfl⟩) (sl := nameSl n M od (some (.d (.int k))) z r) (S := matP [] n (nameT M inv k 0)) ⟨z, rfl, rfl⟩
    refine ⟨_, _, z_for (rng1_ok (k := n) (z_cons (z_var rfl) z_nil) (by omega)) e, some (.d (.int k)), z2, rfl, matP_ext fun a b ha hb => ?_⟩
    unfold nameT
    have := O.ltI b hb
    have g : (inv a < k ∨ (inv a = k ∧ inv b < n)) ↔ (inv a < k + 1 ∨ (inv a = k + 1 ∧ inv b < 0)) := by omega
    simp only [g]) (sl := nameSl n M od y0 z0 r) (S := matP [] n (nameT M inv 0 0)) ⟨y0, z0, rfl, rfl⟩
  refine ⟨y, z, ?_⟩
  rw [e0]
  have ef : matP [] n (nameT M inv n 0) = matP [] n (nameM M inv) := matP_ext fun a b ha hb => by
    unfold nameT nameM
    have := O.ltI a ha
    rw [if_pos (by omega)]
  rw [← ef]
  exact z_for (rng1_ok (k := n) (z_cons (z_var rfl) z_nil) (by omega)) e
end
end DV
set_option Elab.async false
set_option linter.all false
set_option maxRecDepth 100000
set_option maxHeartbeats 4000000
namespace DV
open PySem
def withD : DS :=
  (seqS (asgS 2 (blt lenD (consL (var 0) nilL)))
  (seqS (asgS 3 (ownE (lcF [6] (rng1 (consL (var 2) nilL)) (.nm 6) yes (ownE (repF (frzE (szF (consL (cst (.int 0)) nilL))) (var 2))))))
  (seqS nameL
  (rtS (callP frozenF (consL (var 3) nilL))))))
def withF : FnP := runP 7 2 withD
def lnamedD : DS :=
  (seqS (asgS 2 (blt lenD (consL (var 0) nilL)))
  (seqS (asgS 3 (ownE (lcF [6] (rng1 (consL (var 2) nilL)) (.nm 6) yes (ownE (repF (frzE (szF (consL (cst (.int 0)) nilL))) (var 2))))))
  (seqS nameL
  (rtS (blt tupD (consL (frzE (lcF [7] (seqI (var 3)) (.nm 7) yes (blt tupD (consL (var 7) nilL)))) nilL))))))
def lnamedF : FnP := runP 8 2 lnamedD
section
variable {n : Nat} {M : Nat → Nat → Int} {od : PyData} {ord inv : Nat → Nat}
theorem with_ok (O : Ord n od ord inv) (hn : n ≤ 1000) : withF [webD n M, od] = .ok (webD n (nameM M inv)) := by
  obtain ⟨y, z, e3⟩ := nameL_ok (M := M) (r := [none]) O hn (y0 := none) (z0 := none)
  obtain ⟨S', f1, _⟩ := frz_matP (pre := []) (n := n) (M := nameM M inv)
  have e1 : asgS 2 (blt lenD (consL (var 0) nilL)) (slots 7 [.d (webD n M), .d od]) [] = .nx [some (.d (webD n M)), some (.d od), some (.d (.int n)), none, none, none, none] [] :=
    z_asg (x := .d (.int n)) (z_blt (ds := [webD n M]) (z_consD (z_var rfl) z_nilD) (by show some (PyData.int _) = _; rw [web_len]))
  have e2 := z_asg (i := 3) (zerosP_ok (own := [6]) (slot := 6) (i := 2) (k := 2) (n := n) (sl := [some (.d (webD n M)), some (.d od), some (.d (.int n)), none, none, none, none]) (S := []) rfl ⟨rfl, by decide⟩ hn)
  refine z_runP rfl (z_seq e1 (z_seq e2 (z_seq e3 (z_rt (d := webD n (nameM M inv)) (S1 := S') ?_)))) rfl
  show (consL (var 3) nilL _ _).bind _ = _
  rw [z_cons (x := .loc (([] : Sto).length + n)) (z_var rfl) z_nil]
  have hf : frzL (matP [] n (nameM M inv)) [.loc (([] : Sto).length + n)] = some ([.list ((List.range n).map fun i => .list (linD n (nameM M inv i)))], S') := by
    show (match frz (matP [] n (nameM M inv)) (.loc (([] : Sto).length + n)) with | some (d, S1) => (match frzL S1 [] with | some (ds, S2) => some (d :: ds, S2) | none => none) | none => none) = _
    rw [f1]
    rfl
  simp only [R.bind, hf]
  rw [frozen_ok hn]
theorem lnamed_ok (O : Ord n od ord inv) (hn : n ≤ 1000) : lnamedF [webD n M, od] = .ok (webD n (nameM M inv)) := by
  obtain ⟨y, z, e3⟩ := nameL_ok (M := M) (r := [none, none]) O hn (y0 := none) (z0 := none)
  obtain ⟨S', f1, _⟩ := frz_matP (pre := []) (n := n) (M := nameM M inv)
  have e1 : asgS 2 (blt lenD (consL (var 0) nilL)) (slots 8 [.d (webD n M), .d od]) [] = .nx [some (.d (webD n M)), some (.d od), some (.d (.int n)), none, none, none, none, none] [] :=
    z_asg (x := .d (.int n)) (z_blt (ds := [webD n M]) (z_consD (z_var rfl) z_nilD) (by show some (PyData.int _) = _; rw [web_len]))
  have e2 := z_asg (i := 3) (zerosP_ok (own := [6]) (slot := 6) (i := 2) (k := 2) (n := n) (sl := [some (.d (webD n M)), some (.d od), some (.d (.int n)), none, none, none, none, none]) (S := []) rfl ⟨rfl, by decide⟩ hn)
  have e4 := give_ok (own := [7]) (slot := 7) (k := 3) (sl := nameSl n M od y z [none, none]) (pre := []) (T := nameM M inv) rfl (show (7 : Nat) < 8 by decide) hn f1
  exact z_runP rfl (z_seq e1 (z_seq e2 (z_seq e3 (z_rt e4)))) rfl
end
end DV
set_option Elab.async false
set_option linter.all false
set_option maxRecDepth 100000
set_option maxHeartbeats 4000000
namespace DV
open PySem
def isStartD : DS :=
  (seqS (ifS (orB (notB (asB (isiE "tuple" (var 0)))) (orB (asB (bin neD (blt lenD (consL (var 0) nilL)) (cst (.int 2)))) (notB (asB (blt allBD (consL (frzE (lcF [1] (seqI (var 0)) (.nm 1) yes (callP isIntF (consL (var 1) nilL)))) nilL)))))) (rtS (cst (.bool false))) nilS)
  (rtS (andV (callP isFromF (consL (ixE (var 0) (cst (.int 0))) (consL (cst (.int 1)) (consL (cst (.int 1000000)) nilL)))) (andV (callP isFromF (consL (ixE (var 0) (cst (.int 1))) (consL (cst (.int 1)) (consL (cst (.int 1000000)) nilL)))) (bin eqD (callP commonF (consL (ixE (var 0) (cst (.int 0))) (consL (ixE (var 0) (cst (.int 1))) nilL))) (cst (.int 1)))))))
def isStartF : FnP := runP 2 1 isStartD
/-- a share above 0 that may be told -/
def StartOk (p : Shr) : Prop := 1 ≤ p.1 ∧ p.1 ≤ 1000000 ∧ 1 ≤ p.2 ∧ p.2 ≤ 1000000 ∧ Nat.gcd p.1.natAbs p.2.natAbs = 1
theorem isStart_ok {p : Shr} (h : StartOk p) : isStartF [shD p] = .ok (.bool true) := by
  obtain ⟨h1, h2, h3, h4, h5⟩ := h
  have a1 : p.1 = (p.1.natAbs : Int) := by omega
  have a2 : p.2 = (p.2.natAbs : Int) := by omega
  have lg : p.2.natAbs.log2 < 8000 := Nat.lt_trans (log_small (by omega) (by omega)) (by decide)
  have c2 := lcGo_yes (slot := 1) (el := callP isIntF (consL (var 1) nilL)) (sl := wipeS (slots 2 [.d (shD p)]) [1]) (S := []) (f := fun _ => .bool true) [.int p.1, .int p.2] 0 (fun d hd => by
    have : d = .int p.1 ∨ d = .int p.2 := by simpa using hd
    rcases this with rfl | rfl
    · exact z_callP (ds := [.int p.1]) (z_consD (z_var rfl) z_nilD) (isInt_int _)
    · exact z_callP (ds := [.int p.2]) (z_consD (z_var rfl) z_nilD) (isInt_int _)) (sz_ge 2 (by decide))
  have e1 : orB (notB (asB (isiE "tuple" (var 0)))) (orB (asB (bin neD (blt lenD (consL (var 0) nilL)) (cst (.int 2)))) (notB (asB (blt allBD (consL (frzE (lcF [1] (seqI (var 0)) (.nm 1) yes (callP isIntF (consL (var 1) nilL)))) nilL))))) (slots 2 [.d (shD p)]) [] = .ok false [] :=
    z_orF (z_notT (z_asB (z_un (z_var rfl) (by rfl)))) (z_orF (z_asB (z_bin (d1 := .int 2) (d2 := .int 2) (z_blt (ds := [shD p]) (z_consD (z_var rfl) z_nilD) rfl) rfl (by rw [neD_int]; rfl))) (z_notT (z_asB (z_blt (z_consD (z_frzE (z_lc (own := [1]) (z_seqT (z_var rfl)) c2)) z_nilD) (allBD_true (by simp))))))
  have e2 : ∀ v : Int, 1 ≤ v → v ≤ 1000000 → isFromF [.int v, .int 1, .int 1000000] = .ok (.bool true) := fun v b1 b2 => by
    rw [isFrom_int, decide_eq_true ⟨b1, b2⟩]
  have e3 : commonF [.int p.1, .int p.2] = .ok (.int 1) := by
    rw [a1, a2, common_ok lg, h5]; rfl
  refine z_runP rfl (z_seq (z_ifF e1 rfl) (z_rt (S1 := []) (z_andVT (z_callP (ds := [.int p.1, .int 1, .int 1000000]) (z_consD (z_ix (z_var rfl) rfl sh_0) (z_consD rfl (z_consD rfl z_nilD))) (e2 _ h1 h2)) (z_andVT (z_callP (ds := [.int p.2, .int 1, .int 1000000]) (z_consD (z_ix (z_var rfl) rfl sh_1) (z_consD rfl (z_consD rfl z_nilD))) (e2 _ h3 h4)) (z_bin (z_callP (ds := [.int p.1, .int p.2]) (z_consD (z_ix (z_var rfl) rfl sh_0) (z_consD (z_ix (z_var rfl) rfl sh_1) z_nilD)) e3) rfl (by rw [eqD_int]; rfl)))))) rfl
end DV
set_option Elab.async false
set_option linter.all false
set_option maxRecDepth 100000
set_option maxHeartbeats 4000000
namespace DV
open PySem
def needShD : DS :=
  (ifS (orB (notB (asB (isiE "tuple" (var 1)))) (orB (asB (bin neD (blt lenD (consL (var 1) nilL)) (var 0))) (notB (asB (blt allBD (consL (frzE (lcF [2] (seqI (var 1)) (.nm 2) yes (callP isStartF (consL (var 2) nilL)))) nilL)))))) (raS "BadShares") nilS)
def needShF : FnP := runP 3 2 needShD
theorem needSh_ok {n : Nat} {f : Nat → Shr} (hn : n ≤ 1000) (h : ∀ k, k < n → StartOk (f k)) : needShF [.int n, .tuple ((List.range n).map fun k => shD (f k))] = .ok .none := by
  have hl : ((List.range n).map fun k => shD (f k)).length = n := by simp
  have c2 := lcGo_yes (slot := 2) (el := callP isStartF (consL (var 2) nilL)) (sl := wipeS (slots 3 [.d (.int n), .d (.tuple ((List.range n).map fun k => shD (f k)))]) [2]) (S := []) (f := fun _ => .bool true) ((List.range n).map fun k => shD (f k)) 0 (fun d hd => by
    obtain ⟨k, hk, rfl⟩ := List.mem_map.mp hd
    exact z_callP (ds := [shD (f k)]) (z_consD (z_var rfl) z_nilD) (isStart_ok (h k (List.mem_range.mp hk)))) (by rw [hl]; exact sz_ge _ (by omega))
  refine z_runP rfl (z_ifF (S1 := []) (z_orF (z_notT (z_asB (z_un (z_var rfl) (by rfl)))) (z_orF (z_asB (z_bin (d1 := .int n) (d2 := .int n) (z_blt (ds := [.tuple ((List.range n).map fun k => shD (f k))]) (z_consD (z_var rfl) z_nilD) (by show some (PyData.int _) = _; rw [hl])) (z_var rfl) (by rw [neD_int]; simp))) (z_notT (z_asB (z_blt (z_consD (z_frzE (z_lc (own := [2]) (z_seqT (z_var rfl)) c2)) z_nilD) (allBD_true (fun d hd => by
    obtain ⟨_, _, rfl⟩ := List.mem_map.mp hd
    rfl))))))) rfl) rfl
end DV
set_option Elab.async false
set_option linter.all false
set_option maxRecDepth 100000
set_option maxHeartbeats 4000000
namespace DV
open PySem
theorem anyBD_false {ds : List PyData} (h : ∀ d ∈ ds, d = .bool false) : anyBD [.list ds] = some (.bool false) := by
  have e : bools ds = some (List.replicate ds.length false) := by
    induction ds with
    | nil => rfl
    | cons d ds ih =>
      have hd := h d List.mem_cons_self
      subst hd
      simp only [bools, ih fun d hd => h d (List.mem_cons_of_mem _ hd), Option.map_some, List.length_cons, List.replicate_succ]
  show (bools ds).map _ = _
  rw [e]
  simp
def smallD : DS :=
  (ifS (asB (blt anyBD (consL (frzE (lc2F [1, 2] [2] (seqI (var 0)) (.nm 1) yes (seqI (var 1)) (.nm 2) yes (bin gtI (blt absD (consL (var 2) nilL)) (cst (.int 1000))))) nilL))) (raS "TooGreat") nilS)
def smallF : FnP := runP 3 1 smallD
theorem small_ok {n : Nat} {M : Nat → Nat → Int} (hn : n ≤ 100) (h : ∀ a b, a < n → b < n → -1000 ≤ M a b ∧ M a b ≤ 1000) : smallF [webD n M] = .ok .none := by
  have c2 := lc2Go_yes (s1 := 1) (s2 := 2) (it1 := seqI (var 1)) (el := bin gtI (blt absD (consL (var 2) nilL)) (cst (.int 1000))) (vs1 := [2]) (sl := wipeS (slots 3 [.d (webD n M)]) [1, 2]) (S := []) (es := fun d => match d with | .tuple ds => ds | _ => []) (f := fun _ _ => .bool false) (c := n) ((List.range n).map fun i => .tuple (linD n (M i))) 0
    (fun d hd => by
      obtain ⟨i, _, rfl⟩ := List.mem_map.mp hd
      exact z_seqT (z_var rfl)) (fun d hd => by
      obtain ⟨i, _, rfl⟩ := List.mem_map.mp hd
      simp [linD]) (fun d hd e he => by
      obtain ⟨i, hi, rfl⟩ := List.mem_map.mp hd
      obtain ⟨j, hj, rfl⟩ := List.mem_map.mp he
      have hb := h i j (List.mem_range.mp hi) (List.mem_range.mp hj)
      refine z_bin (d1 := .int (if M i j < 0 then -(M i j) else M i j)) (z_blt (ds := [.int (M i j)]) (z_consD (z_var rfl) z_nilD) rfl) rfl ?_
      have : ¬ (1000 : Int) < (if M i j < 0 then -(M i j) else M i j) := by split <;> omega
      simp only [gtI, cmpI, decide_eq_false this]) (by
      rw [List.length_map, List.length_range, Nat.zero_add]
      have : n * n ≤ 100 * 100 := Nat.mul_le_mul hn hn
      rw [sizeLine_eq]; omega)
  refine z_runP rfl (z_ifF (S1 := []) (z_asB (z_blt (z_consD (z_frzE (ds := _) ?_) z_nilD) (anyBD_false (ds := ((List.range n).map fun i => PyData.tuple (linD n (M i))).flatMap fun d => (match d with | .tuple ds => ds | _ => []).map fun _ => .bool false) fun d hd => by
    obtain ⟨_, _, h⟩ := List.mem_flatMap.mp hd
    obtain ⟨_, _, rfl⟩ := List.mem_map.mp h
    rfl))) rfl) rfl
  show (seqI (var 0) _ _).bind _ = _
  rw [z_seqT (ds := (List.range n).map fun i => PyData.tuple (linD n (M i))) (z_var rfl)]
  exact c2
end DV
set_option Elab.async false
set_option linter.all false
set_option maxRecDepth 100000
set_option maxHeartbeats 4000000
namespace DV
open PySem
def turnOfD : DS :=
  (seqS (asgS 2 (callP behindF (consL (var 0) (consL (var 1) nilL))))
  (seqS (exS (callP smallF (consL (var 2) nilL)))
  (rtS (var 2))))
def turnOfF : FnP := runP 3 2 turnOfD
theorem turnOf_ok {n x : Nat} {M : Nat → Nat → Int} {b : Int} (hs : Skew b M) (hb : b ≤ 1000000) (hn : n ≤ 100) (hx : x < n) (h : ∀ a c, a < n → c < n → -1000 ≤ turnM M x a c ∧ turnM M x a c ≤ 1000) : turnOfF [webD n M, .int x] = .ok (webD n (turnM M x)) :=
  z_runP rfl (z_seq (z_asg (z_callP (ds := [webD n M, .int x]) (z_consD (z_var rfl) (z_consD (z_var rfl) z_nilD)) (behind_ok hs hb (by omega) hx))) (z_seq (z_ex (z_callP (ds := [webD n (turnM M x)]) (z_consD (z_var rfl) z_nilD) (small_ok hn h))) (z_rt (S1 := []) (z_var rfl)))) rfl
end DV
set_option Elab.async false
set_option linter.all false
set_option maxRecDepth 100000
set_option maxHeartbeats 4000000
namespace DV
open PySem
def bodyV : DS := (seqS (asgS 6 (callQ prodF (consL (var 3) (consL (frzE (lcF [8] (rng1 (consL (var 4) nilL)) (.nm 8) yes (blt maxD2 (consL (cst (.int 0)) (consL (ixE (ixE (var 0) (var 8)) (var 5)) nilL))))) nilL))))
  (seqS (asgS 7 (callQ prodF (consL (var 3) (consL (frzE (lcF [8] (rng1 (consL (var 4) nilL)) (.nm 8) yes (blt maxD2 (consL (cst (.int 0)) (consL (ixE (ixE (var 0) (var 5)) (var 8)) nilL))))) nilL))))
  (seqS (putS (callP ptimesF (consL (callP pplusF (consL (var 6) (consL (var 7) nilL))) (consL (callP turnedShF (consL (ixE (var 3) (var 5)) nilL)) nilL))) (var 3) (var 5))
  (seqS (exS (callP shortF (consL (ixE (var 3) (var 5)) nilL)))
  (asgS 0 (callP turnOfF (consL (var 0) (consL (var 5) nilL))))))))
def insG (n : Nat) (f : Nat → Shr) (g : Nat → Int) : List (Shr × Nat) := (List.range n).map fun y => (f y, (g y).toNat)
def newG (n : Nat) (M : Nat → Nat → Int) (x : Nat) (f : Nat → Shr) : Option Shr :=
  (prodG (insG n f fun y => M y x) (1, 1)).bind fun i => (prodG (insG n f fun y => M x y) (1, 1)).bind fun o =>
    if great (timesZ (plusZ i o) ((f x).2, (f x).1)) then none else some (timesZ (plusZ i o) ((f x).2, (f x).1))
theorem z_callQ {Fn : FnP} {la : DL} {sl : Sl} {S S1 : Sto} {xs : List Val} {ds : List PyData} {d : PyData} (h : la sl S = .ok xs S1) (hd : dats S1 xs = some ds) (h2 : Fn ds = .ok d) (hn : noL d = true) : callQ Fn la sl S = .ok (.d d) S1 := by
  unfold callQ
  rw [h]
  simp only [R.bind, hd, h2, if_pos hn]
theorem z_callQE {Fn : FnP} {la : DL} {sl : Sl} {S S1 : Sto} {xs : List Val} {ds : List PyData} {e : Exn} (h : la sl S = .ok xs S1) (hd : dats S1 xs = some ds) (h2 : Fn ds = .er e) (hn : e.fs.isEmpty = true) : callQ Fn la sl S = .er e S1 := by
  unfold callQ
  rw [h]
  simp only [R.bind, hd, h2, if_pos hn]
theorem insG_fst (n : Nat) (f : Nat → Shr) (g : Nat → Int) : (insG n f g).map (fun z => shD z.1) = (List.range n).map fun y => shD (f y) := by
  unfold insG; rw [List.map_map]; rfl
theorem max0 (i : Int) : maxD2 [.int 0, .int i] = some (.int (i.toNat : Nat)) := by
  show some (PyData.int (if i > 0 then i else 0)) = _
  congr 2
  split <;> omega
/-- a column's numbers from 0 on -/
theorem colG {n : Nat} {g : Nat → Int} {el : DE} {sl : Sl} {S : Sto} (hn : n ≤ 1000) (h4 : sl[4]? = some (some (.d (.int n)))) (hel : ∀ y, y < n → el ((wipeS sl [8]).set 8 (some (.d (.int (y : Nat))))) S = .ok (.d (.int (g y).toNat)) S) :
    frzE (lcF [8] (rng1 (consL (var 4) nilL)) (.nm 8) yes el) sl S = .ok (.d (.list ((List.range n).map fun y => .int ((g y).toNat : Nat)))) S := by
  have c2 := lcGo_yes (slot := 8) (el := el) (sl := wipeS sl [8]) (S := S) (f := fun d => match d with | .int z => .int ((g z.toNat).toNat : Nat) | d => d) (rangeL 0 n) 0 (fun d hd => by
    obtain ⟨y, hy, rfl⟩ := mem_rangeL hd
    exact hel y hy) (by rw [rangeL_length]; exact sz_ge _ (by omega))
  have c3 := z_frzE (z_lc (own := [8]) (rng1_ok (z_cons (z_var h4) z_nil) (by omega)) c2)
  have el : (rangeL 0 n).map (fun d => match d with | PyData.int z => PyData.int ((g z.toNat).toNat : Nat) | d => d) = (List.range n).map fun y => .int ((g y).toNat : Nat) := by
    unfold rangeL
    rw [List.map_map]
    apply List.map_congr_left
    intro z _
    show PyData.int ((g ((0 : Int) + (z : Nat)).toNat).toNat : Nat) = _
    rw [Int.zero_add, Int.toNat_natCast]
  rw [el] at c3
  exact c3
def bodySl (n : Nat) (M : Nat → Nat → Int) (told sh : Val) (x i o : Option Val) : Sl := [some (.d (webD n M)), some told, some sh, some (.loc 0), some (.d (.int n)), x, i, o, none]
theorem z_seqE {g g2 : DS} {sl sl1 : Sl} {S S1 : Sto} {e : Exn} (h : g sl S = .er e sl1 S1) : seqS g g2 sl S = .er e sl1 S1 := by
  show (match g sl S with | .nx sl' S' => g2 sl' S' | r => r) = _
  rw [h]
theorem z_asgE {f : DE} {i : Nat} {sl : Sl} {S S1 : Sto} {e : Exn} (h : f sl S = .er e S1) : asgS i f sl S = .er e sl S1 := by
  show thenS (f sl S) sl _ = _
  rw [h]; rfl
theorem z_exE {f : DE} {sl : Sl} {S S1 : Sto} {e : Exn} (h : f sl S = .er e S1) : exS f sl S = .er e sl S1 := by
  show thenS (f sl S) sl _ = _
  rw [h]; rfl
theorem z_callPE {Fn : FnP} {la : DL} {sl : Sl} {S S1 : Sto} {ds : List PyData} {e : Exn} (h : la sl S = .ok (ds.map .d) S1) (h2 : Fn ds = .er e) : callP Fn la sl S = .er e S1 := by
  show (la sl S).bind _ = _
  rw [h]
  show (match frzL S1 (ds.map .d) with | some (ds, S2) => (match Fn ds with | .ok x => R.ok (Val.d x) S2 | .er e => .er e S2 | .bad => .bad) | none => .bad) = _
  rw [frzL_d]
  show (match Fn ds with | .ok x => R.ok (Val.d x) S1 | .er e => .er e S1 | .bad => .bad) = _
  rw [h2]
section
variable {n x : Nat} {M : Nat → Nat → Int} {f : Nat → Shr} {told sh : Val} {b : Int}
theorem dats_vals (l : List PyData) : dats [.lst (valsL n f)] [.loc 0, .d (.list l)] = some [.list ((List.range n).map fun y => shD (f y)), .list l] := by
  have e : valsL n f = ((List.range n).map fun y => shD (f y)).map .d := by unfold valsL; rw [List.map_map]; rfl
  have e2 : DV.dat [.lst (valsL n f)] (.loc 0) = some (.list ((List.range n).map fun y => shD (f y))) := by
    show (allD (valsL n f)).map PyData.list = _
    rw [e, allD_map]; rfl
  show (match DV.dat [.lst (valsL n f)] (.loc 0), dats [.lst (valsL n f)] [.d (.list l)] with | some d, some ds => some (d :: ds) | _, _ => none) = _
  rw [e2]
  rfl
theorem prod_call {g : Nat → Int} {el : DE} {x i o : Option Val} (hn : n ≤ 1000) (hf : ∀ y, y < n → Sm (f y)) (hg : ∀ y, y < n → g y ≤ 1000000) (hel : ∀ y, y < n → el ((wipeS (bodySl n M told sh x i o) [8]).set 8 (some (.d (.int (y : Nat))))) [.lst (valsL n f)] = .ok (.d (.int (g y).toNat)) [.lst (valsL n f)]) :
    callQ prodF (consL (var 3) (consL (frzE (lcF [8] (rng1 (consL (var 4) nilL)) (.nm 8) yes el)) nilL)) (bodySl n M told sh x i o) [.lst (valsL n f)] = match prodG (insG n f g) (1, 1) with
      | some q => .ok (.d (shD q)) [.lst (valsL n f)]
      | none => .er tooG [.lst (valsL n f)] := by
  have c := colG (n := n) (g := g) (el := el) (sl := bodySl n M told sh x i o) (S := [.lst (valsL n f)]) hn rfl hel
  have a := z_cons (S := [.lst (valsL n f)]) (z_var (sl := bodySl n M told sh x i o) (i := 3) (x := .loc 0) rfl) (z_cons c z_nil)
  have pr := prod_ok (l := insG n f g) (fun z hz => by
    obtain ⟨y, hy, rfl⟩ := List.mem_map.mp hz
    have := hg y (List.mem_range.mp hy)
    exact ⟨hf y (List.mem_range.mp hy), by show (g y).toNat ≤ 1000000; omega⟩)
  rw [insG_fst] at pr
  have e2 : (insG n f g).map (fun z => PyData.int (z.2 : Nat)) = (List.range n).map fun y => .int ((g y).toNat : Nat) := by unfold insG; rw [List.map_map]; rfl
  rw [e2] at pr
  cases h : prodG (insG n f g) (1, 1) with
  | some q =>
    rw [h] at pr
    exact z_callQ a (dats_vals _) pr rfl
  | none =>
    rw [h] at pr
    exact z_callQE a (dats_vals _) pr rfl
end
end DV
set_option Elab.async false
set_option linter.all false
set_option maxRecDepth 100000
set_option maxHeartbeats 4000000
namespace DV
open PySem
theorem powG_sm {v : Shr} (hv : Sm v) : ∀ (k : Nat) (p q : Shr), Sm p → powG v k p = some q → Sm q
  | 0, p, q, hp, h => by
    have : p = q := Option.some.inj h
    rw [← this]; exact hp
  | k + 1, p, q, hp, h => by
    have h' : (if great (timesZ p v) then none else powG v k (timesZ p v)) = some q := h
    cases hg : great (timesZ p v) with
    | true => rw [hg] at h'; cases h'
    | false =>
      rw [hg] at h'
      exact powG_sm hv k _ q (great_sm hg (timesZ_pos hp.2.1 hv.2.1)) h'
theorem prodG_sm : ∀ (l : List (Shr × Nat)) (p q : Shr), Sm p → (∀ z ∈ l, Sm z.1) → prodG l p = some q → Sm q
  | [], p, q, hp, _, h => by
    have : p = q := Option.some.inj h
    rw [← this]; exact hp
  | z :: l, p, q, hp, hl, h => by
    obtain ⟨r, h1, h2⟩ := Option.bind_eq_some_iff.mp (show (powG z.1 z.2 p).bind (prodG l) = some q from h)
    exact prodG_sm l r q (powG_sm (hl z List.mem_cons_self) z.2 p r hp h1) (fun z hz => hl z (List.mem_cons_of_mem _ hz)) h2
/-- smaller still -/
def Sm1 (p : Shr) : Prop := p.1.natAbs.log2 < 1000 ∧ 0 < p.2 ∧ p.2.natAbs.log2 < 1000
theorem great_sm1 {p : Shr} (h : great p = false) (h2 : 0 < p.2) : Sm1 p := by
  unfold great at h
  rw [Bool.or_eq_false_iff, decide_eq_false_iff_not, decide_eq_false_iff_not] at h
  have h1 := MV_log (a := p.1.natAbs) (by omega)
  have h3 := MV_log (a := p.2.natAbs) (by omega)
  exact ⟨h1, h2, h3⟩
theorem Sm1.sm {p : Shr} (h : Sm1 p) : Sm p := ⟨Nat.lt_trans h.1 (by decide), h.2.1, Nat.lt_trans h.2.2 (by decide)⟩
theorem powG_sm1 {v : Shr} (hv : Sm v) : ∀ (k : Nat) (p q : Shr), Sm1 p → powG v k p = some q → Sm1 q
  | 0, p, q, hp, h => by
    have : p = q := Option.some.inj h
    rw [← this]; exact hp
  | k + 1, p, q, hp, h => by
    have h' : (if great (timesZ p v) then none else powG v k (timesZ p v)) = some q := h
    cases hg : great (timesZ p v) with
    | true => rw [hg] at h'; cases h'
    | false =>
      rw [hg] at h'
      exact powG_sm1 hv k _ q (great_sm1 hg (timesZ_pos hp.2.1 hv.2.1)) h'
theorem prodG_sm1 : ∀ (l : List (Shr × Nat)) (p q : Shr), Sm1 p → (∀ z ∈ l, Sm z.1) → prodG l p = some q → Sm1 q
  | [], p, q, hp, _, h => by
    have : p = q := Option.some.inj h
    rw [← this]; exact hp
  | z :: l, p, q, hp, hl, h => by
    obtain ⟨r, h1, h2⟩ := Option.bind_eq_some_iff.mp (show (powG z.1 z.2 p).bind (prodG l) = some q from h)
    exact prodG_sm1 l r q (powG_sm1 (hl z List.mem_cons_self) z.2 p r hp h1) (fun z hz => hl z (List.mem_cons_of_mem _ hz)) h2
theorem one_sm1 : Sm1 (1, 1) := ⟨by decide, by decide, by decide⟩
end DV
set_option Elab.async false
set_option linter.all false
set_option maxRecDepth 100000
set_option maxHeartbeats 4000000
namespace DV
open PySem
theorem lt_pow_of_log {a k : Nat} (h : a.log2 < k) : a < 2 ^ k := by
  by_cases h0 : a = 0
  · subst h0; exact Nat.pow_pos (by decide)
  · exact (Nat.log2_lt h0).mp h
theorem log_of_lt_pow {a k : Nat} (h : a < 2 ^ k) (hk : 0 < k) : a.log2 < k := by
  by_cases h0 : a = 0
  · subst h0; exact hk
  · exact (Nat.log2_lt h0).mpr h
theorem ediv_abs_le (a : Int) (g : Nat) : (a / (g : Int)).natAbs ≤ a.natAbs := by
  exact Int.natAbs_ediv_le_natAbs a g
theorem shareZ_abs (t b : Int) : (shareZ t b).1.natAbs ≤ t.natAbs ∧ (shareZ t b).2.natAbs ≤ b.natAbs := ⟨ediv_abs_le t _, ediv_abs_le b _⟩
theorem plus_bd {i o : Shr} {k : Nat} (h1 : i.1.natAbs < 2 ^ k) (h2 : i.2.natAbs < 2 ^ k) (h3 : o.1.natAbs < 2 ^ k) (h4 : o.2.natAbs < 2 ^ k) :
    (plusZ i o).1.natAbs < 2 ^ (k + k + 1) ∧ (plusZ i o).2.natAbs < 2 ^ (k + k + 1) := by
  have a1 : i.1.natAbs * o.2.natAbs < 2 ^ k * 2 ^ k := Nat.mul_lt_mul'' h1 h4
  have a2 : o.1.natAbs * i.2.natAbs < 2 ^ k * 2 ^ k := Nat.mul_lt_mul'' h3 h2
  have a3 : i.2.natAbs * o.2.natAbs < 2 ^ k * 2 ^ k := Nat.mul_lt_mul'' h2 h4
  have e : 2 ^ (k + k + 1) = 2 ^ k * 2 ^ k + 2 ^ k * 2 ^ k := by
    rw [Nat.pow_succ, Nat.pow_add]; omega
  have s := shareZ_abs (i.1 * o.2 + o.1 * i.2) (i.2 * o.2)
  have t1 : (i.1 * o.2 + o.1 * i.2).natAbs ≤ i.1.natAbs * o.2.natAbs + o.1.natAbs * i.2.natAbs := by
    have := Int.natAbs_add_le (i.1 * o.2) (o.1 * i.2)
    rw [Int.natAbs_mul, Int.natAbs_mul] at this
    exact this
  have t2 : (i.2 * o.2).natAbs = i.2.natAbs * o.2.natAbs := Int.natAbs_mul _ _
  rw [e]
  unfold plusZ
  exact ⟨by omega, by omega⟩
theorem plus_sm {i o : Shr} (hi : Sm1 i) (ho : Sm1 o) : Sm (plusZ i o) := by
  obtain ⟨p1, p2⟩ := plus_bd (k := 1000) (lt_pow_of_log hi.1) (lt_pow_of_log hi.2.2) (lt_pow_of_log ho.1) (lt_pow_of_log ho.2.2)
  exact ⟨Nat.lt_trans (log_of_lt_pow p1 (by decide)) (by decide), shareZ_pos (Int.mul_pos hi.2.1 ho.2.1), Nat.lt_trans (log_of_lt_pow p2 (by decide)) (by decide)⟩
/-- above 0 -/
def Po (p : Shr) : Prop := 0 < p.1 ∧ 0 < p.2
theorem shareZ_po {t b : Int} (ht : 0 < t) (hb : 0 < b) : Po (shareZ t b) := by
  refine ⟨?_, shareZ_pos hb⟩
  have d : ((Nat.gcd t.natAbs b.natAbs : Nat) : Int) ∣ t := Int.ofNat_dvd_left.mpr (Nat.gcd_dvd_left _ _)
  exact Int.ediv_pos_of_pos_of_dvd ht (Int.natCast_nonneg _) d
theorem timesZ_po {p q : Shr} (hp : Po p) (hq : Po q) : Po (timesZ p q) := shareZ_po (Int.mul_pos hp.1 hq.1) (Int.mul_pos hp.2 hq.2)
theorem plusZ_po {p q : Shr} (hp : Po p) (hq : Po q) : Po (plusZ p q) := shareZ_po (Int.add_pos (Int.mul_pos hp.1 hq.2) (Int.mul_pos hq.1 hp.2)) (Int.mul_pos hp.2 hq.2)
theorem powG_po {v : Shr} (hv : Po v) : ∀ (k : Nat) (p q : Shr), Po p → powG v k p = some q → Po q
  | 0, p, q, hp, h => by
    have : p = q := Option.some.inj h
    rw [← this]; exact hp
  | k + 1, p, q, hp, h => by
    have h' : (if great (timesZ p v) then none else powG v k (timesZ p v)) = some q := h
    cases hg : great (timesZ p v) with
    | true => rw [hg] at h'; cases h'
    | false =>
      rw [hg] at h'
      exact powG_po hv k _ q (timesZ_po hp hv) h'
theorem prodG_po : ∀ (l : List (Shr × Nat)) (p q : Shr), Po p → (∀ z ∈ l, Po z.1) → prodG l p = some q → Po q
  | [], p, q, hp, _, h => by
    have : p = q := Option.some.inj h
    rw [← this]; exact hp
  | z :: l, p, q, hp, hl, h => by
    obtain ⟨r, h1, h2⟩ := Option.bind_eq_some_iff.mp (show (powG z.1 z.2 p).bind (prodG l) = some q from h)
    exact prodG_po l r q (powG_po (hl z List.mem_cons_self) z.2 p r hp h1) (fun z hz => hl z (List.mem_cons_of_mem _ hz)) h2
theorem insG_all {n : Nat} {f : Nat → Shr} {g : Nat → Int} {Q : Shr → Prop} (h : ∀ y, y < n → Q (f y)) : ∀ z ∈ insG n f g, Q z.1 := fun z hz => by
  obtain ⟨y, hy, rfl⟩ := List.mem_map.mp hz
  exact h y (List.mem_range.mp hy)
/-- small and above 0 -/
def PS (p : Shr) : Prop := Sm p ∧ 0 < p.1
theorem newG_ps {n x : Nat} {M : Nat → Nat → Int} {f : Nat → Shr} {v : Shr} (hx : x < n) (hf : ∀ y, y < n → PS (f y)) (h : newG n M x f = some v) : PS v := by
  unfold newG at h
  obtain ⟨i, h1, h2⟩ := Option.bind_eq_some_iff.mp h
  obtain ⟨o, h3, h4⟩ := Option.bind_eq_some_iff.mp h2
  have pi := prodG_po _ _ _ (show Po (1, 1) from ⟨by decide, by decide⟩) (insG_all (Q := Po) fun y hy => ⟨(hf y hy).2, (hf y hy).1.2.1⟩) h1
  have po := prodG_po _ _ _ (show Po (1, 1) from ⟨by decide, by decide⟩) (insG_all (Q := Po) fun y hy => ⟨(hf y hy).2, (hf y hy).1.2.1⟩) h3
  have pv := timesZ_po (plusZ_po pi po) (show Po ((f x).2, (f x).1) from ⟨(hf x hx).1.2.1, (hf x hx).2⟩)
  split at h4
  · cases h4
  · rename_i c
    cases h4
    exact ⟨great_sm (by simpa using c) pv.2, pv.1⟩
section
variable {n x : Nat} {M : Nat → Nat → Int} {f : Nat → Shr} {told sh : Val} {b : Int}
theorem elI_ok {y : Nat} (hy : y < n) (hx : x < n) {i o : Option Val} {S : Sto} :
    blt maxD2 (consL (cst (.int 0)) (consL (ixE (ixE (var 0) (var 8)) (var 5)) nilL)) ((wipeS (bodySl n M told sh (some (.d (.int x))) i o) [8]).set 8 (some (.d (.int (y : Nat))))) S = .ok (.d (.int (M y x).toNat)) S :=
  z_blt (ds := [.int 0, .int (M y x)]) (z_consD rfl (z_consD (web_at (M := M) (z_var rfl) (z_var rfl) (z_var rfl) hy hx) z_nilD)) (max0 _)
theorem elO_ok {y : Nat} (hy : y < n) (hx : x < n) {i o : Option Val} {S : Sto} :
    blt maxD2 (consL (cst (.int 0)) (consL (ixE (ixE (var 0) (var 5)) (var 8)) nilL)) ((wipeS (bodySl n M told sh (some (.d (.int x))) i o) [8]).set 8 (some (.d (.int (y : Nat))))) S = .ok (.d (.int (M x y).toNat)) S :=
  z_blt (ds := [.int 0, .int (M x y)]) (z_consD rfl (z_consD (web_at (M := M) (z_var rfl) (z_var rfl) (z_var rfl) hx hy) z_nilD)) (max0 _)
theorem bodyV_ok (hs : Skew b M) (hb : b ≤ 1000000) (hn : n ≤ 100) (hx : x < n) (hw : ∀ a c, a < n → c < n → -1000 ≤ turnM M x a c ∧ turnM M x a c ≤ 1000) (hf : ∀ y, y < n → PS (f y)) {i0 o0 : Option Val} :
    match newG n M x f with
    | some v => ∃ i o, bodyV (bodySl n M told sh (some (.d (.int x))) i0 o0) [.lst (valsL n f)] = .nx (bodySl n (turnM M x) told sh (some (.d (.int x))) i o) [.lst (valsL n (setF f x v))]
    | none => ∃ sl S, bodyV (bodySl n M told sh (some (.d (.int x))) i0 o0) [.lst (valsL n f)] = .er tooG sl S := by
  have hsm : ∀ y, y < n → Sm (f y) := fun y hy => (hf y hy).1
  have p1 := prod_call (n := n) (M := M) (f := f) (told := told) (sh := sh) (x := some (.d (.int x))) (i := i0) (o := o0) (g := fun y => M y x) (by omega) hsm (fun y hy => by have := (hs y x).2.2; omega) (fun y hy => elI_ok hy hx)
  unfold newG
  cases h1 : prodG (insG n f fun y => M y x) (1, 1) with
  | none =>
    rw [h1] at p1
    exact ⟨_, _, z_seqE (z_asgE p1)⟩
  | some i =>
    rw [h1] at p1
    have p2 := prod_call (n := n) (M := M) (f := f) (told := told) (sh := sh) (x := some (.d (.int x))) (i := some (.d (shD i))) (o := o0) (g := fun y => M x y) (by omega) hsm (fun y hy => by have := (hs x y).2.2; omega) (fun y hy => elO_ok hy hx)
    cases h2 : prodG (insG n f fun y => M x y) (1, 1) with
    | none =>
      rw [h2] at p2
      exact ⟨_, _, z_seq (z_asg p1) (z_seqE (z_asgE p2))⟩
    | some o =>
      rw [h2] at p2
      have si := prodG_sm1 _ _ _ one_sm1 (insG_all (Q := Sm) hsm) h1
      have so := prodG_sm1 _ _ _ one_sm1 (insG_all (Q := Sm) hsm) h2
      have sT : Sm ((f x).2, (f x).1) := ⟨(hsm x hx).2.2, (hf x hx).2, (hsm x hx).1⟩
      have p3 : putS (callP ptimesF (consL (callP pplusF (consL (var 6) (consL (var 7) nilL))) (consL (callP turnedShF (consL (ixE (var 3) (var 5)) nilL)) nilL))) (var 3) (var 5) (bodySl n M told sh (some (.d (.int x))) (some (.d (shD i))) (some (.d (shD o)))) [.lst (valsL n f)] = .nx (bodySl n M told sh (some (.d (.int x))) (some (.d (shD i))) (some (.d (shD o)))) [.lst (valsL n (setF f x (timesZ (plusZ i o) ((f x).2, (f x).1))))] := by
        refine z_put (z_callP (ds := [shD (plusZ i o), shD ((f x).2, (f x).1)]) (z_consD (z_callP (ds := [shD i, shD o]) (z_consD (z_var rfl) (z_consD (z_var rfl) z_nilD)) (pplus_ok si.sm so.sm)) (z_consD (z_callP (ds := [shD (f x)]) (z_consD (z_ix (z_var rfl) (z_var rfl) (val_get hx)) z_nilD) turnedSh_ok) z_nilD)) (ptimes_ok (plus_sm si so) sT)) (z_var rfl) (z_var rfl) ?_
        show (match L2.ixN (valsL n f).length (x : Int) with | some j => some ([Ob.lst (valsL n f)].set 0 (.lst ((valsL n f).set j _))) | none => none) = _
        rw [show (valsL n f).length = n by simp [valsL], ixN_of hx]
        simp only [List.set_cons_zero]
        rw [valsL_set hx]
      have ex : (setF f x (timesZ (plusZ i o) ((f x).2, (f x).1))) x = timesZ (plusZ i o) ((f x).2, (f x).1) := if_pos rfl
      have p4 := short_ok (p := timesZ (plusZ i o) ((f x).2, (f x).1))
      have c4 : consL (ixE (var 3) (var 5)) nilL (bodySl n M told sh (some (.d (.int x))) (some (.d (shD i))) (some (.d (shD o)))) [.lst (valsL n (setF f x (timesZ (plusZ i o) ((f x).2, (f x).1))))] = .ok ([shD (timesZ (plusZ i o) ((f x).2, (f x).1))].map .d) [.lst (valsL n (setF f x (timesZ (plusZ i o) ((f x).2, (f x).1))))] := by
        refine z_consD (z_ix (z_var rfl) (z_var rfl) ?_) z_nilD
        rw [val_get hx, ex]
      cases h3 : great (timesZ (plusZ i o) ((f x).2, (f x).1)) with
      | true =>
        rw [h3] at p4
        simp only [Option.bind_some, h3, if_true]
        exact ⟨_, _, z_seq (z_asg p1) (z_seq (z_asg p2) (z_seq p3 (z_seqE (z_exE (z_callPE c4 p4)))))⟩
      | false =>
        rw [h3] at p4
        simp only [Option.bind_some, h3, Bool.false_eq_true, if_false]
        exact ⟨_, _, z_seq (z_asg p1) (z_seq (z_asg p2) (z_seq p3 (z_seq (z_ex (z_callP c4 p4)) (z_asg (z_callP (ds := [webD n M, .int x]) (z_consD (z_var rfl) (z_consD (z_var rfl) z_nilD)) (turnOf_ok hs hb hn hx hw))))))⟩
end
end DV
set_option Elab.async false
set_option linter.all false
set_option maxRecDepth 100000
set_option maxHeartbeats 4000000
namespace DV
open PySem
def pvalsD : DS :=
  (seqS (parS [3, 4] (consL (ownE (lstF (var 2))) (consL (blt lenD (consL (var 0) nilL)) nilL)))
  (seqS (forS (seqI (var 1)) (.nm 5) bodyV)
  (rtS (var 3))))
def pvalsF : FnP := runP 9 3 pvalsD
def valsG (n : Nat) : (Nat → Nat → Int) → List Nat → (Nat → Shr) → Option (Nat → Shr)
  | _, [], f => some f
  | M, x :: xs, f => (newG n M x f).bind fun v => valsG n (turnM M x) xs (setF f x v)
def WebsSm (n : Nat) : (Nat → Nat → Int) → List Nat → Prop
  | _, [] => True
  | M, x :: xs => x < n ∧ (∃ b, b ≤ 1000000 ∧ Skew b M) ∧ (∀ a c, a < n → c < n → -1000 ≤ turnM M x a c ∧ turnM M x a c ≤ 1000) ∧ WebsSm n (turnM M x) xs
section
variable {n x : Nat} {M : Nat → Nat → Int} {f : Nat → Shr} {told sh : Val} {b : Int}
theorem setF_ps {v : Shr} (hf : ∀ y, y < n → PS (f y)) (hv : PS v) : ∀ y, y < n → PS (setF f x v y) := fun y hy => by
  unfold setF
  split
  · exact hv
  · exact hf y hy
theorem pvals_go (hn : n ≤ 100) : ∀ (l : List Nat) (M : Nat → Nat → Int) (f : Nat → Shr) (x0 i0 o0 : Option Val), WebsSm n M l → (∀ y, y < n → PS (f y)) →
    match valsG n M l f with
    | some f' => ∃ M' x i o, fgo (.nm 5) bodyV (l.map fun k => .int (k : Nat)) (bodySl n M told sh x0 i0 o0) [.lst (valsL n f)] = .nx (bodySl n M' told sh x i o) [.lst (valsL n f')]
    | none => ∃ sl S, fgo (.nm 5) bodyV (l.map fun k => .int (k : Nat)) (bodySl n M told sh x0 i0 o0) [.lst (valsL n f)] = .er tooG sl S := by
  intro l
  induction l with
  | nil =>
    intro M f x0 i0 o0 _ _
    exact ⟨M, x0, i0, o0, rfl⟩
  | cons k l ih =>
    intro M f x0 i0 o0 hw hf
    obtain ⟨hk, ⟨b, hb, hs⟩, hsm, hw2⟩ := hw
    have st := bodyV_ok (told := told) (sh := sh) hs hb hn hk hsm hf (i0 := i0) (o0 := o0)
    have ev : valsG n M (k :: l) f = (newG n M k f).bind fun v => valsG n (turnM M k) l (setF f k v) := rfl
    rw [ev]
    cases h : newG n M k f with
    | none =>
      rw [h] at st
      obtain ⟨sl, S, e⟩ := st
      exact ⟨sl, S, fgo_er e⟩
    | some v =>
      rw [h] at st
      obtain ⟨i, o, e⟩ := st
      have g := ih (turnM M k) (setF f k v) (some (.d (.int k))) i o hw2 (setF_ps hf (newG_ps hk hf h))
      show (match valsG n (turnM M k) l (setF f k v) with
        | some f' => _
        | none => _)
      cases h2 : valsG n (turnM M k) l (setF f k v) with
      | none =>
        rw [h2] at g
        obtain ⟨sl, S, e2⟩ := g
        exact ⟨sl, S, fgo_cons e e2⟩
      | some f' =>
        rw [h2] at g
        obtain ⟨M', x', i', o', e2⟩ := g
        exact ⟨M', x', i', o', fgo_cons e e2⟩
theorem z_lstL {fa : DE} {sl : Sl} {S S1 : Sto} {ds : List PyData} (h : fa sl S = .ok (.d (.list ds)) S1) : lstF fa sl S = .ok (ds.map .d) S1 := by
  show (fa sl S).bind _ = _
  rw [h]; rfl
def shL (n : Nat) (f : Nat → Shr) : List PyData := (List.range n).map fun k => shD (f k)
theorem frz_vals {f' : Nat → Shr} : frz [.lst (valsL n f')] (.loc 0) = some (.list (shL n f'), [.frz (shL n f')]) := by
  have : valsL n f' = (shL n f').map .d := by unfold shL; rw [List.map_map]; rfl
  rw [this]
  show (match frzS 4 _ (.loc 0) with | some S1 => (match fzd S1 (.loc 0) with | some d => some (d, S1) | none => none) | none => none) = _
  rw [frzS_line (S := [.lst ((shL n f').map .d)]) (k := 0) rfl]
  rfl
theorem pvals_ok {l : List Nat} {shs : PyData} (hsh : shs = .list (shL n f) ∨ shs = .tuple (shL n f)) (hn : n ≤ 100) (hw : WebsSm n M l) (hf : ∀ y, y < n → PS (f y)) :
    pvalsF [webD n M, .tuple (l.map fun k => .int (k : Nat)), shs] = match valsG n M l f with
      | some f' => .ok (.list (shL n f'))
      | none => .er tooG := by
  have g := pvals_go (told := .d (.tuple (l.map fun k => .int (k : Nat)))) (sh := .d shs) hn l M f none none none hw hf
  have e0 : lstF (var 2) (slots 9 [.d (webD n M), .d (.tuple (l.map fun k => .int (k : Nat))), .d shs]) [] = .ok ((shL n f).map .d) [] := by
    rcases hsh with rfl | rfl
    · exact z_lstL (z_var rfl)
    · exact z_lst1 (z_var rfl)
  have ev : (shL n f).map Val.d = valsL n f := by unfold shL; rw [List.map_map]; rfl
  rw [ev] at e0
  have e1 : parS [3, 4] (consL (ownE (lstF (var 2))) (consL (blt lenD (consL (var 0) nilL)) nilL)) (slots 9 [.d (webD n M), .d (.tuple (l.map fun k => .int (k : Nat))), .d shs]) [] = .nx (bodySl n M (.d (.tuple (l.map fun k => .int (k : Nat)))) (.d shs) none none none) [.lst (valsL n f)] :=
    z_par (z_cons (z_own e0) (z_cons (z_blt (d := .int n) (ds := [webD n M]) (z_consD (z_var rfl) z_nilD) (by show some (PyData.int _) = _; rw [web_len])) z_nil)) rfl (by decide)
  cases h : valsG n M l f with
  | some f' =>
    rw [h] at g
    obtain ⟨M', x, i, o, e⟩ := g
    exact z_runP rfl (z_seq e1 (z_seq (z_for (z_seqT (z_var rfl)) e) (z_rtL (z_var rfl) frz_vals))) rfl
  | none =>
    rw [h] at g
    obtain ⟨sl, S, e⟩ := g
    exact z_runP (r := .er tooG sl S) rfl (z_seq e1 (z_seqE (z_for (z_seqT (z_var rfl)) e))) rfl
end
end DV
set_option Elab.async false
set_option linter.all false
set_option maxRecDepth 100000
set_option maxHeartbeats 4000000
namespace DV
open PySem
def six : DF := szF (consL (cst (.int 0)) (consL (cst (.int 1)) (consL (cst (.int 1)) (consL (bin subD (cst (.int 0)) (cst (.int 1))) (consL (bin subD (cst (.int 0)) (cst (.int 2))) (consL (cst (.int 2)) nilL))))))
def stB1 : DS := (seqS (putS (callR pickF (var 0) (consL (frzE six) nilL)) (var 2) (var 3))
  (putS (ixE (var 2) (var 3)) (var 2) (bin subD (var 1) (var 3))))
def stB2 : DS := (put2S (tupE (consL (ixE (var 2) (var 5)) (consL (bin subD (cst (.int 0)) (ixE (var 2) (var 5))) nilL))) (ixE (var 4) (cst (.int 0))) (var 5) (ixE (var 4) (var 5)) (cst (.int 0)))
def stB3 : DS := (seqS (asgS 8 (cst (.int 0)))
  (seqS (ifS (andB (asB (bin gtI (ixE (ixE (var 4) (var 6)) (cst (.int 0))) (cst (.int 0)))) (asB (bin gtI (ixE (ixE (var 4) (cst (.int 0))) (var 5)) (cst (.int 0))))) (asgS 8 (bin mulD (ixE (ixE (var 4) (var 6)) (cst (.int 0))) (ixE (ixE (var 4) (cst (.int 0))) (var 5)))) nilS)
  (seqS (ifS (andB (asB (bin ltI (ixE (ixE (var 4) (var 6)) (cst (.int 0))) (cst (.int 0)))) (asB (bin ltI (ixE (ixE (var 4) (cst (.int 0))) (var 5)) (cst (.int 0))))) (asgS 8 (bin subD (cst (.int 0)) (bin mulD (ixE (ixE (var 4) (var 6)) (cst (.int 0))) (ixE (ixE (var 4) (cst (.int 0))) (var 5))))) nilS)
  (seqS (putS (bin subD (ixE (ixE (var 4) (bin subD (var 6) (cst (.int 1)))) (bin subD (var 5) (cst (.int 1)))) (var 8)) (ixE (var 4) (var 6)) (var 5))
  (putS (bin subD (cst (.int 0)) (ixE (ixE (var 4) (var 6)) (var 5))) (ixE (var 4) (var 5)) (var 6))))))
def stD : DS :=
  (seqS (asgS 2 (ownE (repF (frzE (szF (consL (cst (.int 0)) nilL))) (var 1))))
  (seqS (forS (rng2 (consL (cst (.int 1)) (consL (bin addD (bin divD (var 1) (cst (.int 2))) (cst (.int 1))) nilL))) (.nm 3) stB1)
  (seqS (asgS 4 (ownE (lcF [7] (rng1 (consL (var 1) nilL)) (.nm 7) yes (ownE (repF (frzE (szF (consL (cst (.int 0)) nilL))) (var 1))))))
  (seqS (forS (rng2 (consL (cst (.int 1)) (consL (var 1) nilL))) (.nm 5) stB2)
  (seqS (forS (rng2 (consL (cst (.int 1)) (consL (var 1) nilL))) (.nm 6) (forS (rng2 (consL (bin addD (var 6) (cst (.int 1))) (consL (var 1) nilL))) (.nm 5) stB3))
  (rtS (blt tupD (consL (frzE (lcF [9] (seqI (var 4)) (.nm 9) yes (blt tupD (consL (var 9) nilL)))) nilL))))))))
def stF : FnR := runR 10 2 stD
theorem six_ok {sl : Sl} {S : Sto} : frzE six sl S = .ok (.d (.list [.int 0, .int 1, .int 1, .int (-1), .int (-2), .int 2])) S := by
  have h2 : (6 : Nat) ≤ sizeLine := sz_ge 6 (by decide)
  simp [six, frzE, szF, frzL, frz, consL, nilL, cst, bin, two, dat, subD, okD, R.bind, h2]
theorem pick6 {row : List PyData} (hr : RowOk row) : ∃ v row', pickF [.list [.int 0, .int 1, .int 1, .int (-1), .int (-2), .int 2]] row = .ok (.int v) row' ∧ RowOk row' ∧ -2 ≤ v ∧ v ≤ 2 := by
  obtain ⟨x, row', e, ok, hx⟩ := pick_ok hr (xs := [.int 0, .int 1, .int 1, .int (-1), .int (-2), .int 2]) (by simp) (by simp)
  simp only [List.mem_cons, List.not_mem_nil, or_false] at hx
  rcases hx with rfl | rfl | rfl | rfl | rfl | rfl <;> exact ⟨_, row', e, ok, by decide, by decide⟩
def stSl (n : Nat) (at_ tb z y th : Option Val) : Sl := [some (.loc 0), some (.d (.int n)), some (.loc 1), at_, tb, z, y, none, th, none]
def lnS (row : List PyData) (n : Nat) (l : Nat → Int) : Sto := [.lst (row.map .d), .lst (linV n l)]
section
variable {n : Nat} {l : Nat → Int} {row : List PyData}
theorem ln_put {at_ : Nat} {v : Int} (ha : at_ < n) : putV (lnS row n l) (.loc 1) (.d (.int at_)) (.d (.int v)) = some (lnS row n fun q => if q = at_ then v else l q) := by
  show (match L2.ixN (linV n l).length (at_ : Int) with | some j => some ([Ob.lst (row.map .d), .lst (linV n l)].set 1 (.lst ((linV n l).set j (.d (.int v))))) | none => none) = _
  rw [lin_len, ixN_of ha]
  simp only [List.set_cons_succ, List.set_cons_zero]
  rw [linV_set]
  rfl
theorem ln_get {at_ : Nat} (ha : at_ < n) : ixV (lnS row n l) (.loc 1) (.d (.int at_)) = .ok (.d (.int (l at_))) (lnS row n l) := by
  show (match L2.atI (linV n l) (at_ : Int) with | some v => R.ok v (lnS row n l) | none => .bad) = _
  unfold linV
  rw [atI_map _ ha]
def B2 (n : Nat) (l : Nat → Int) : Prop := ∀ j, j < n → -2 ≤ l j ∧ l j ≤ 2
theorem B2.put (h : B2 n l) {a : Nat} {v : Int} (h1 : -2 ≤ v) (h2 : v ≤ 2) : B2 n fun q => if q = a then v else l q := fun j hj => by
  dsimp only
  split
  · exact ⟨h1, h2⟩
  · exact h j hj
theorem stB1_ok (hr : RowOk row) (hl : B2 n l) {a : Nat} (h1 : 1 ≤ a) (h2 : 2 * a ≤ n) (hn : n ≤ 1000) {tb z y th : Option Val} :
    ∃ row' l', stB1 (stSl n (some (.d (.int a))) tb z y th) (lnS row n l) = .nx (stSl n (some (.d (.int a))) tb z y th) (lnS row' n l') ∧ RowOk row' ∧ B2 n l' := by
  obtain ⟨v, row', e, ok, v1, v2⟩ := pick6 hr
  have ha : a < n := by omega
  have hb : n - a < n := by omega
  have eb : (n : Int) - (a : Int) = ((n - a : Nat) : Int) := by omega
  have b1 := hl.put (a := a) v1 v2
  refine ⟨row', _, z_seq (S1 := lnS row' n fun q => if q = a then v else l q) (z_put (z_callR (k := 0) (S1 := lnS row n l) (S2 := lnS row n l) (row := row) (z_var rfl) (z_consD six_ok z_nilD) rfl e) (z_var rfl) (z_var rfl) (ln_put ha)) (z_put (z_ix (z_var rfl) (z_var rfl) (ln_get ha)) (z_var rfl) (z_bin (z_var rfl) (z_var rfl) (d1 := .int n) (d2 := .int a) (d := .int ((n - a : Nat) : Int)) (by show some (PyData.int ((n : Int) - (a : Int))) = _; rw [eb])) (ln_put hb)), ok, ?_⟩
  have := b1 a ha
  exact b1.put this.1 this.2
theorem stL1_ok (hr : RowOk row) (hl : B2 n l) (h0 : 1 ≤ n) (hn : n ≤ 1000) {at0 tb z y th : Option Val} :
    ∃ a row' l', forS (rng2 (consL (cst (.int 1)) (consL (bin addD (bin divD (var 1) (cst (.int 2))) (cst (.int 1))) nilL))) (.nm 3) stB1 (stSl n at0 tb z y th) (lnS row n l) = .nx (stSl n a tb z y th) (lnS row' n l') ∧ RowOk row' ∧ B2 n l' := by
  have l2 : Nat.log2 2 < 9000 := by decide +kernel
  have e0 : rng2 (consL (cst (.int 1)) (consL (bin addD (bin divD (var 1) (cst (.int 2))) (cst (.int 1))) nilL)) (stSl n at0 tb z y th) (lnS row n l) = .ok (rangeL (1 : Nat) (n / 2 + 1 - 1)) (lnS row n l) := by
    refine rng2_ok (i := 1) (k := n / 2 + 1) (z_cons rfl (z_cons (z_bin (d1 := .int ((n / 2 : Nat) : Int)) (z_bin (z_var rfl) rfl (d1 := .int n) (d2 := .int 2) ?_) rfl ?_) z_nil)) (by omega) (by omega)
    · show (if decide ((0 : Int) < 2) && decide ((2 : Int).natAbs.log2 < 9000) then some (PyData.int ((n : Int) / 2)) else none) = _
      rw [if_pos (by decide)]
      congr 2
    · show some (PyData.int (((n / 2 : Nat) : Int) + 1)) = _
      congr 2
  obtain ⟨sl', S', e, a, row', l', rfl, rfl, ok, hl'⟩ := fgo_range (slot := 3) (lo := (1 : Nat)) (cnt := n / 2 + 1 - 1) (g := stB1) (P := fun _ sl S => ∃ a row' l', sl = stSl n a tb z y th ∧ S = lnS row' n l' ∧ RowOk row' ∧ B2 n l') (fun i sl S hi hp => by
    obtain ⟨a, row1, l1, rfl, rfl, ok1, hl1⟩ := hp
    obtain ⟨row2, l2, e, ok2, hl2⟩ := stB1_ok (tb := tb) (z := z) (y := y) (th := th) ok1 hl1 (a := 1 + i) (by omega) (by omega) hn
    refine ⟨_, _, ?_, some (.d (.int ((1 + i : Nat) : Int))), row2, l2, rfl, rfl, ok2, hl2⟩
    rw [show ((1 : Nat) : Int) + (i : Nat) = ((1 + i : Nat) : Int) by omega]
    exact e) (sl := stSl n at0 tb z y th) (S := lnS row n l) ⟨at0, row, l, rfl, rfl, hr, hl⟩
  exact ⟨a, row', l', z_for e0 e, ok, hl'⟩
theorem ln_getP {T : Nat → Nat → Int} {at_ : Nat} (ha : at_ < n) : ixV (matP (lnS row n l) n T) (.loc 1) (.d (.int at_)) = .ok (.d (.int (l at_))) (matP (lnS row n l) n T) := by
  show (match L2.atI (linV n l) (at_ : Int) with | some v => R.ok v (matP (lnS row n l) n T) | none => .bad) = _
  unfold linV
  rw [atI_map _ ha]
abbrev tbl (n : Nat) : Option Val := some (.loc (2 + n))
theorem stB2_ok {T : Nat → Nat → Int} {z : Nat} (h0 : 0 < n) (hz : z < n) {a y th : Option Val} :
    stB2 (stSl n a (tbl n) (some (.d (.int z))) y th) (matP (lnS row n l) n T) = .nx (stSl n a (tbl n) (some (.d (.int z))) y th) (matP (lnS row n l) n (upd2 (upd2 T 0 z (l z)) z 0 (0 - l z))) := by
  refine z_put2 (d1 := .int (l z)) (d2 := .int (0 - l z)) (z_tup (ds := [.int (l z), .int (0 - l z)]) (z_consD (z_ix (z_var rfl) (z_var rfl) (ln_getP hz)) (z_consD (z_bin (d1 := .int 0) (d2 := .int (l z)) rfl (z_ix (z_var rfl) (z_var rfl) (ln_getP hz)) rfl) z_nilD)) (sz_ge 2 (by decide))) (z_ix (z_var rfl) rfl (matP_ix (pre := lnS row n l) (i := 0) h0)) (z_var rfl) (matP_put h0 hz) (z_ix (z_var rfl) (z_var rfl) (matP_ix (pre := lnS row n l) hz)) rfl (matP_put (j := 0) hz h0)
end
end DV
set_option Elab.async false
set_option linter.all false
set_option maxRecDepth 100000
set_option maxHeartbeats 4000000
namespace DV
open PySem
section
variable {n : Nat} {l : Nat → Int} {row : List PyData}
theorem addZ_bd {a b : Int} (h1 : -2 ≤ a) (h2 : a ≤ 2) (h3 : -2 ≤ b) (h4 : b ≤ 2) : -4 ≤ addZ a b ∧ addZ a b ≤ 4 := by
  have ha : a = -2 ∨ a = -1 ∨ a = 0 ∨ a = 1 ∨ a = 2 := by omega
  have hb : b = -2 ∨ b = -1 ∨ b = 0 ∨ b = 1 ∨ b = 2 := by omega
  rcases ha with rfl | rfl | rfl | rfl | rfl <;> rcases hb with rfl | rfl | rfl | rfl | rfl <;> decide
theorem Skew.mono {c d : Int} {T : Nat → Nat → Int} (h : Skew c T) (hd : c ≤ d) : Skew d T := fun i j => by
  have := h i j
  exact ⟨this.1, by omega, by omega⟩
theorem stL2_ok (hl : B2 n l) (h0 : 1 ≤ n) (hn : n ≤ 1000) {a z0 y th : Option Val} :
    ∃ z T, forS (rng2 (consL (cst (.int 1)) (consL (var 1) nilL))) (.nm 5) stB2 (stSl n a (tbl n) z0 y th) (matP (lnS row n l) n fun _ _ => 0) = .nx (stSl n a (tbl n) z y th) (matP (lnS row n l) n T) ∧ Skew 2 T := by
  have e0 : rng2 (consL (cst (.int 1)) (consL (var 1) nilL)) (stSl n a (tbl n) z0 y th) (matP (lnS row n l) n fun _ _ => 0) = .ok (rangeL (1 : Nat) (n - 1)) (matP (lnS row n l) n fun _ _ => 0) :=
    rng2_ok (i := 1) (k := n) (z_cons rfl (z_cons (z_var rfl) z_nil)) (by omega) (by omega)
  obtain ⟨sl', S', e, z, T, rfl, rfl, hs⟩ := fgo_range (slot := 5) (lo := (1 : Nat)) (cnt := n - 1) (g := stB2) (P := fun _ sl S => ∃ z T, sl = stSl n a (tbl n) z y th ∧ S = matP (lnS row n l) n T ∧ Skew 2 T) (fun i sl S hi hp => by
    obtain ⟨z, T, rfl, rfl, hs⟩ := hp
    have hz : 1 + i < n := by omega
    refine ⟨_, _, ?_, some (.d (.int ((1 + i : Nat) : Int))), _, rfl, rfl, hs.put (y := 0) (z := 1 + i) (by omega) (hl _ hz).1 (hl _ hz).2⟩
    rw [show ((1 : Nat) : Int) + (i : Nat) = ((1 + i : Nat) : Int) by omega]
    exact stB2_ok (T := T) (z := 1 + i) (by omega) hz) (sl := stSl n a (tbl n) z0 y th) (S := matP (lnS row n l) n fun _ _ => 0) ⟨z0, _, rfl, rfl, Skew.zero (by decide)⟩
  exact ⟨z, T, z_for e0 e, hs⟩
theorem and_gt {f1 f2 : DE} {sl : Sl} {S : Sto} {a b : Int} (h1 : f1 sl S = .ok (.d (.int a)) S) (h2 : f2 sl S = .ok (.d (.int b)) S) : andB (asB (bin gtI f1 (cst (.int 0)))) (asB (bin gtI f2 (cst (.int 0)))) sl S = .ok (decide (0 < a ∧ 0 < b)) S := by
  by_cases c : 0 < a
  · refine z_andT (z_asB (z_bin h1 rfl (by simp [gtI, cmpI, c]))) (z_asB (z_bin h2 rfl ?_))
    simp [gtI, cmpI, c]
  · rw [decide_eq_false (by omega)]
    exact z_andF (z_asB (z_bin h1 rfl (by simp [gtI, cmpI, c])))
theorem and_lt {f1 f2 : DE} {sl : Sl} {S : Sto} {a b : Int} (h1 : f1 sl S = .ok (.d (.int a)) S) (h2 : f2 sl S = .ok (.d (.int b)) S) : andB (asB (bin ltI f1 (cst (.int 0)))) (asB (bin ltI f2 (cst (.int 0)))) sl S = .ok (decide (a < 0 ∧ b < 0)) S := by
  by_cases c : a < 0
  · refine z_andT (z_asB (z_bin h1 rfl (by simp [ltI, cmpI, c]))) (z_asB (z_bin h2 rfl ?_))
    simp [ltI, cmpI, c]
  · rw [decide_eq_false (by omega)]
    exact z_andF (z_asB (z_bin h1 rfl (by simp [ltI, cmpI, c])))
theorem z_nop {sl : Sl} {S : Sto} : nilS sl S = .nx sl S := rfl
theorem stB3_ok {T : Nat → Nat → Int} {y z : Nat} (hy : y < n) (hz : z < n) (h1 : 1 ≤ y) (h2 : 1 ≤ z) (b1 : -2 ≤ T y 0 ∧ T y 0 ≤ 2) (b2 : -2 ≤ T 0 z ∧ T 0 z ≤ 2) {a th : Option Val} :
    stB3 (stSl n a (tbl n) (some (.d (.int z))) (some (.d (.int y))) th) (matP (lnS row n l) n T) = .nx (stSl n a (tbl n) (some (.d (.int z))) (some (.d (.int y))) (some (.d (.int (addZ (T y 0) (T 0 z)))))) (matP (lnS row n l) n (upd2 (upd2 T y z (T (y - 1) (z - 1) - addZ (T y 0) (T 0 z))) z y (0 - (T (y - 1) (z - 1) - addZ (T y 0) (T 0 z))))) := by
  have h0 : 0 < n := by omega
  have m1 : ∀ th S, S = matP (lnS row n l) n T → ixE (ixE (var 4) (var 6)) (cst (.int 0)) (stSl n a (tbl n) (some (.d (.int z))) (some (.d (.int y))) th) S = .ok (.d (.int (T y 0))) S := fun th S e => by
    subst e
    exact mat_at (pre := lnS row n l) (i := y) (j := 0) (z_var rfl) (z_var rfl) rfl hy h0
  have m2 : ∀ th S, S = matP (lnS row n l) n T → ixE (ixE (var 4) (cst (.int 0))) (var 5) (stSl n a (tbl n) (some (.d (.int z))) (some (.d (.int y))) th) S = .ok (.d (.int (T 0 z))) S := fun th S e => by
    subst e
    exact mat_at (pre := lnS row n l) (i := 0) (j := z) (z_var rfl) rfl (z_var rfl) h0 hz
  have mm := mulD_small (a := T y 0) (b := T 0 z) (by omega) (by omega) (by omega) (by omega)
  have ey : (y : Int) - 1 = ((y - 1 : Nat) : Int) := by omega
  have ez : (z : Int) - 1 = ((z - 1 : Nat) : Int) := by omega
  have tail : ∀ t : Int, seqS (putS (bin subD (ixE (ixE (var 4) (bin subD (var 6) (cst (.int 1)))) (bin subD (var 5) (cst (.int 1)))) (var 8)) (ixE (var 4) (var 6)) (var 5))
      (putS (bin subD (cst (.int 0)) (ixE (ixE (var 4) (var 6)) (var 5))) (ixE (var 4) (var 5)) (var 6)) (stSl n a (tbl n) (some (.d (.int z))) (some (.d (.int y))) (some (.d (.int t)))) (matP (lnS row n l) n T) = .nx (stSl n a (tbl n) (some (.d (.int z))) (some (.d (.int y))) (some (.d (.int t)))) (matP (lnS row n l) n (upd2 (upd2 T y z (T (y - 1) (z - 1) - t)) z y (0 - (T (y - 1) (z - 1) - t)))) := fun t => by
    have eu : upd2 T y z (T (y - 1) (z - 1) - t) y z = T (y - 1) (z - 1) - t := by unfold upd2; rw [if_pos ⟨rfl, rfl⟩]
    refine z_seq (z_put (z_bin (d1 := .int (T (y - 1) (z - 1))) (d2 := .int t) (mat_at (pre := lnS row n l) (i := y - 1) (j := z - 1) (z_var rfl) (z_bin (d1 := .int y) (d2 := .int 1) (z_var rfl) rfl (by show some (PyData.int ((y : Int) - 1)) = _; rw [ey])) (z_bin (d1 := .int z) (d2 := .int 1) (z_var rfl) rfl (by show some (PyData.int ((z : Int) - 1)) = _; rw [ez])) (by omega) (by omega)) (z_var rfl) rfl) (z_ix (z_var rfl) (z_var rfl) (matP_ix (pre := lnS row n l) hy)) (z_var rfl) (matP_put hy hz)) ?_
    refine z_put (z_bin (d1 := .int 0) (d2 := .int (T (y - 1) (z - 1) - t)) rfl ?_ rfl) (z_ix (z_var rfl) (z_var rfl) (matP_ix (pre := lnS row n l) hz)) (z_var rfl) (matP_put hz hy)
    have := mat_at (pre := lnS row n l) (T := upd2 T y z (T (y - 1) (z - 1) - t)) (i := y) (j := z) (fa := var 4) (fb := var 6) (fc := var 5) (sl := stSl n a (tbl n) (some (.d (.int z))) (some (.d (.int y))) (some (.d (.int t)))) (z_var rfl) (z_var rfl) (z_var rfl) hy hz
    rw [eu] at this
    exact this
  have s1 : asgS 8 (cst (.int 0)) (stSl n a (tbl n) (some (.d (.int z))) (some (.d (.int y))) th) (matP (lnS row n l) n T) = .nx (stSl n a (tbl n) (some (.d (.int z))) (some (.d (.int y))) (some (.d (.int 0)))) (matP (lnS row n l) n T) := z_asg rfl
  by_cases c : 0 < T y 0 ∧ 0 < T 0 z
  · have ea : addZ (T y 0) (T 0 z) = T y 0 * T 0 z := by unfold addZ; rw [if_pos c]
    rw [ea]
    refine z_seq s1 (z_seq (z_ifT (S1 := matP (lnS row n l) n T) ?_ (z_asg (z_bin (m1 _ _ rfl) (m2 _ _ rfl) mm))) (z_seq (z_ifF (S1 := matP (lnS row n l) n T) ?_ z_nop) (tail _)))
    · have := and_gt (m1 (some (.d (.int 0))) _ rfl) (m2 (some (.d (.int 0))) _ rfl)
      rwa [decide_eq_true c] at this
    · have := and_lt (m1 (some (.d (.int (T y 0 * T 0 z)))) _ rfl) (m2 (some (.d (.int (T y 0 * T 0 z)))) _ rfl)
      rwa [decide_eq_false (by omega)] at this
  · by_cases c2 : T y 0 < 0 ∧ T 0 z < 0
    · have ea : addZ (T y 0) (T 0 z) = 0 - T y 0 * T 0 z := by unfold addZ; rw [if_neg c, if_pos c2]
      rw [ea]
      refine z_seq s1 (z_seq (z_ifF (S1 := matP (lnS row n l) n T) ?_ z_nop) (z_seq (z_ifT (S1 := matP (lnS row n l) n T) ?_ (z_asg (z_bin rfl (z_bin (m1 _ _ rfl) (m2 _ _ rfl) mm) rfl))) (tail _)))
      · have := and_gt (m1 (some (.d (.int 0))) _ rfl) (m2 (some (.d (.int 0))) _ rfl)
        rwa [decide_eq_false c] at this
      · have := and_lt (m1 (some (.d (.int 0))) _ rfl) (m2 (some (.d (.int 0))) _ rfl)
        rwa [decide_eq_true c2] at this
    · have ea : addZ (T y 0) (T 0 z) = 0 := by unfold addZ; rw [if_neg c, if_neg c2]
      rw [ea]
      refine z_seq s1 (z_seq (z_ifF (S1 := matP (lnS row n l) n T) ?_ z_nop) (z_seq (z_ifF (S1 := matP (lnS row n l) n T) ?_ z_nop) (tail _)))
      · have := and_gt (m1 (some (.d (.int 0))) _ rfl) (m2 (some (.d (.int 0))) _ rfl)
        rwa [decide_eq_false c] at this
      · have := and_lt (m1 (some (.d (.int 0))) _ rfl) (m2 (some (.d (.int 0))) _ rfl)
        rwa [decide_eq_false c2] at this
def StP (row : List PyData) (n : Nat) (l : Nat → Int) (a y : Option Val) (c : Int) (sl : Sl) (S : Sto) : Prop := ∃ z th T, sl = stSl n a (tbl n) z y th ∧ S = matP (lnS row n l) n T ∧ Skew c T ∧ B2 n (T 0)
theorem stL3_in {y : Nat} (hy : y < n) (h1 : 1 ≤ y) (hn : n ≤ 1000) {a : Option Val} {c : Int} {sl : Sl} {S : Sto} (h : StP row n l a (some (.d (.int y))) c sl S) :
    ∃ sl' S', forS (rng2 (consL (bin addD (var 6) (cst (.int 1))) (consL (var 1) nilL))) (.nm 5) stB3 sl S = .nx sl' S' ∧ StP row n l a (some (.d (.int y))) (c + 4 * (n - (y + 1) : Nat)) sl' S' := by
  have e0 : rng2 (consL (bin addD (var 6) (cst (.int 1))) (consL (var 1) nilL)) sl S = .ok (rangeL (y + 1 : Nat) (n - (y + 1))) S := by
    obtain ⟨z, th, T, rfl, rfl, _, _⟩ := h
    exact rng2_ok (i := y + 1) (k := n) (z_cons (z_bin (d1 := .int y) (d2 := .int 1) (z_var rfl) rfl rfl) (z_cons (z_var rfl) z_nil)) (by omega) (by omega)
  obtain ⟨sl', S', e, p⟩ := fgo_range (slot := 5) (lo := (y + 1 : Nat)) (cnt := n - (y + 1)) (g := stB3) (P := fun i sl S => StP row n l a (some (.d (.int y))) (c + 4 * (i : Nat)) sl S) (fun i sl S hi hp => by
    obtain ⟨z, th, T, rfl, rfl, hs, hb⟩ := hp
    have hz : y + 1 + i < n := by omega
    have bz := hb _ hz
    have by1 := hb _ hy
    have by0 : T y 0 = - T 0 y := (hs 0 y).1
    have ab := addZ_bd (a := T y 0) (b := T 0 (y + 1 + i)) (by omega) (by omega) bz.1 bz.2
    have bd := hs (y - 1) (y + 1 + i - 1)
    refine ⟨_, _, ?_, some (.d (.int ((y + 1 + i : Nat) : Int))), some (.d (.int (addZ (T y 0) (T 0 (y + 1 + i))))), _, rfl, rfl, Skew.put (hs.mono (by omega)) (y := y) (z := y + 1 + i) (v := T (y - 1) (y + 1 + i - 1) - addZ (T y 0) (T 0 (y + 1 + i))) (by omega) (by omega) (by omega), ?_⟩
    · rw [show ((y + 1 : Nat) : Int) + (i : Nat) = ((y + 1 + i : Nat) : Int) by omega]
      exact stB3_ok (T := T) (y := y) (z := y + 1 + i) hy hz h1 (by omega) (by omega) bz
    · intro j hj
      have : ∀ v w, upd2 (upd2 T y (y + 1 + i) v) (y + 1 + i) y w 0 j = T 0 j := fun v w => by
        unfold upd2
        rw [if_neg (by omega), if_neg (by omega)]
      rw [this]
      exact hb j hj) (sl := sl) (S := S) (by simpa using h)
  exact ⟨sl', S', z_for e0 e, p⟩
theorem stL3_ok (h0 : 1 ≤ n) (hn : n ≤ 5) {a y0 : Option Val} {sl : Sl} {S : Sto} (h : StP row n l a y0 2 sl S) :
    ∃ y sl' S', forS (rng2 (consL (cst (.int 1)) (consL (var 1) nilL))) (.nm 6) (forS (rng2 (consL (bin addD (var 6) (cst (.int 1))) (consL (var 1) nilL))) (.nm 5) stB3) sl S = .nx sl' S' ∧ StP row n l a y 102 sl' S' := by
  have e0 : rng2 (consL (cst (.int 1)) (consL (var 1) nilL)) sl S = .ok (rangeL (1 : Nat) (n - 1)) S := by
    obtain ⟨z, th, T, rfl, rfl, _, _⟩ := h
    exact rng2_ok (i := 1) (k := n) (z_cons rfl (z_cons (z_var rfl) z_nil)) (by omega) (by omega)
  obtain ⟨sl', S', e, y, p⟩ := fgo_range (slot := 6) (lo := (1 : Nat)) (cnt := n - 1) (g := forS (rng2 (consL (bin addD (var 6) (cst (.int 1))) (consL (var 1) nilL))) (.nm 5) stB3) (P := fun i sl S => ∃ y, StP row n l a y (2 + 20 * (i : Nat)) sl S) (fun i sl S hi hp => by
    obtain ⟨y1, z, th, T, rfl, rfl, hs, hb⟩ := hp
    have st := stL3_in (row := row) (l := l) (y := 1 + i) (n := n) (a := a) (c := 2 + 20 * (i : Nat)) (sl := stSl n a (tbl n) z (some (.d (.int ((1 + i : Nat) : Int)))) th) (S := matP (lnS row n l) n T) (by omega) (by omega) (by omega) ⟨z, th, T, rfl, rfl, hs, hb⟩
    obtain ⟨sl', S', e, z2, th2, T2, rfl, rfl, hs2, hb2⟩ := st
    refine ⟨_, _, ?_, some (.d (.int ((1 + i : Nat) : Int))), z2, th2, T2, rfl, rfl, hs2.mono (by omega), hb2⟩
    rw [show ((1 : Nat) : Int) + (i : Nat) = ((1 + i : Nat) : Int) by omega]
    exact e) (sl := sl) (S := S) ⟨y0, by simpa using h⟩
  obtain ⟨z, th, T, rfl, rfl, hs, hb⟩ := p
  exact ⟨y, _, _, z_for e0 e, z, th, T, rfl, rfl, hs.mono (by omega), hb⟩
theorem st_ok (hr : RowOk row) (h0 : 1 ≤ n) (hn : n ≤ 5) :
    ∃ (M : Nat → Nat → Int) (row' : List PyData), stF [.int n] row = .ok (webD n M) row' ∧ RowOk row' ∧ Skew 102 M ∧ B2 n (M 0) := by
  have p1 : asgS 2 (ownE (repF (frzE (szF (consL (cst (.int 0)) nilL))) (var 1))) (slots 10 [.loc 0, .d (.int n)]) [.lst (row.map .d)] = .nx (stSl n none none none none none) (lnS row n fun _ => 0) :=
    z_asg (rep0_ok (n := n) (i := 1) (S := [.lst (row.map .d)]) rfl (by omega))
  obtain ⟨a, row1, l, p2, ok1, hl⟩ := stL1_ok (n := n) hr (l := fun _ => 0) (fun j hj => show (-2 : Int) ≤ 0 ∧ (0 : Int) ≤ 2 from ⟨by decide, by decide⟩) h0 (by omega) (at0 := none) (tb := none) (z := none) (y := none) (th := none)
  have p3 : asgS 4 (ownE (lcF [7] (rng1 (consL (var 1) nilL)) (.nm 7) yes (ownE (repF (frzE (szF (consL (cst (.int 0)) nilL))) (var 1))))) (stSl n a none none none none) (lnS row1 n l) = .nx (stSl n a (tbl n) none none none) (matP (lnS row1 n l) n fun _ _ => 0) :=
    z_asg (zerosP_ok (own := [7]) (slot := 7) (i := 1) (k := 1) (n := n) (S := lnS row1 n l) rfl ⟨rfl, by decide⟩ (by omega))
  obtain ⟨z, T, p4, hs⟩ := stL2_ok (row := row1) (n := n) hl h0 (by omega) (a := a) (z0 := none) (y := none) (th := none)
  have hb : B2 n (T 0) := fun j hj => ⟨(hs 0 j).2.1, (hs 0 j).2.2⟩
  obtain ⟨y, sl', S', p5, z2, th2, T2, rfl, rfl, hs2, hb2⟩ := stL3_ok (row := row1) (n := n) (l := l) (a := a) h0 hn (y0 := none) ⟨z, none, T, rfl, rfl, hs, hb⟩
  obtain ⟨S', f1, f2⟩ := frz_matP (pre := lnS row1 n l) (n := n) (M := T2)
  have p6 := give_ok (own := [9]) (slot := 9) (k := 4) (n := n) (sl := stSl n a (tbl n) z2 y th2) (pre := lnS row1 n l) (T := T2) rfl (show (9 : Nat) < 10 by decide) (by omega) f1
  refine ⟨T2, row1, z_runR rfl (z_seq p1 (z_seq p2 (z_seq p3 (z_seq p4 (z_seq p5 (z_rt p6)))))) (z_outR (f2 0 (Nat.zero_lt_succ _))), ok1, hs2, hb2⟩
end
end DV
set_option Elab.async false
set_option linter.all false
set_option maxRecDepth 100000
set_option maxHeartbeats 4000000
namespace DV
open PySem
theorem lay_map {α : Type} (f : α → PyData) : ∀ l : List α, (∀ x ∈ l, (f x).canLay0 = true) → PyData.canLayAll0 (l.map f) = true
  | [], _ => rfl
  | x :: l, h => by
    rw [List.map_cons, PyData.canLayAll0, h x List.mem_cons_self, lay_map f l fun y hy => h y (List.mem_cons_of_mem _ hy)]
    rfl
theorem depth_map {α : Type} (f : α → PyData) (k : Nat) : ∀ l : List α, (∀ x ∈ l, (f x).depth ≤ k) → PyData.depthAll (l.map f) ≤ k
  | [], _ => by simp [PyData.depthAll]
  | x :: l, h => by
    have h1 := h x List.mem_cons_self
    have h2 := depth_map f k l fun y hy => h y (List.mem_cons_of_mem _ hy)
    rw [List.map_cons, PyData.depthAll]
    omega
theorem tup_shaped {α : Type} (f : α → PyData) (k : Nat) (hk : k < 64) (l : List α) (h : ∀ x ∈ l, (f x).canLay0 = true ∧ (f x).depth ≤ k) : SeqAt.shaped (.tuple (l.map f)) = true ∧ SeqAt.shaped (.list (l.map f)) = true := by
  have h1 := lay_map f l fun x hx => (h x hx).1
  have h2 := depth_map f k l fun x hx => (h x hx).2
  unfold SeqAt.shaped
  have h3 : PyData.depthAll (l.map f) + 1 ≤ 64 := by omega
  constructor
  · rw [show (PyData.tuple (l.map f)).canLay0 = PyData.canLayAll0 (l.map f) from by rw [PyData.canLay0], h1, show (PyData.tuple (l.map f)).depth = PyData.depthAll (l.map f) + 1 from by rw [PyData.depth], decide_eq_true h3]; rfl
  · rw [show (PyData.list (l.map f)).canLay0 = PyData.canLayAll0 (l.map f) from by rw [PyData.canLay0], h1, show (PyData.list (l.map f)).depth = PyData.depthAll (l.map f) + 1 from by rw [PyData.depth], decide_eq_true h3]; rfl
theorem line_ok (n : Nat) (f : Nat → Int) : (PyData.tuple ((List.range n).map fun j => .int (f j))).canLay0 = true ∧ (PyData.tuple ((List.range n).map fun j => .int (f j))).depth ≤ 1 := by
  have h1 := lay_map (fun j => PyData.int (f j)) (List.range n) fun _ _ => rfl
  have h2 := depth_map (fun j => PyData.int (f j)) 0 (List.range n) fun _ _ => by simp [PyData.depth]
  simp only [PyData.canLay0, PyData.depth, h1, true_and]
  omega
theorem web_shaped (n : Nat) (M : Nat → Nat → Int) : SeqAt.shaped (webD n M) = true := (tup_shaped _ 1 (by decide) _ fun i _ => line_ok n (M i)).1
theorem sh_lay (p : Shr) : (shD p).canLay0 = true ∧ (shD p).depth ≤ 1 := by
  simp [shD, PyData.canLay0, PyData.canLayAll0, PyData.depth, PyData.depthAll]
theorem eqv_map {α : Type} (f g : α → PyData) : ∀ l : List α, PyData.eqvAll (l.map f) (l.map g) = l.all fun i => PyData.eqv (f i) (g i)
  | [] => rfl
  | x :: l => by rw [List.map_cons, List.map_cons, PyData.eqvAll, eqv_map f g l, List.all_cons]
theorem eqv_int (a b : Int) : PyData.eqv (.int a) (.int b) = decide (a = b) := by
  rw [PyData.eqv]
  by_cases h : a = b
  · subst h; simp
  · simp [h]
def wEq (n : Nat) (A M : Nat → Nat → Int) : Bool := (List.range n).all fun i => (List.range n).all fun j => decide (A i j = M i j)
theorem eqv_web (n : Nat) (A M : Nat → Nat → Int) : PyData.eqv (webD n A) (webD n M) = wEq n A M := by
  unfold webD wEq
  rw [PyData.eqv, eqv_map]
  congr 1
  funext i
  rw [PyData.eqv, eqv_map]
  congr 1
theorem eqD_web (n : Nat) (A M : Nat → Nat → Int) : eqD (webD n A) (webD n M) = some (.bool (wEq n A M)) := by
  unfold eqD
  rw [web_shaped, web_shaped, eqv_web]
  rfl
theorem neD_web (n : Nat) (A M : Nat → Nat → Int) : neD (webD n A) (webD n M) = some (.bool (!wEq n A M)) := by
  unfold neD
  rw [web_shaped, web_shaped, eqv_web]
  rfl
theorem wEq_iff {n : Nat} {A M : Nat → Nat → Int} : wEq n A M = true ↔ ∀ i j, i < n → j < n → A i j = M i j := by
  unfold wEq
  simp only [List.all_eq_true, List.mem_range, decide_eq_true_eq]
  exact ⟨fun h i j hi hj => h i hi j hj, fun h i hi j hj => h i j hi hj⟩
theorem eqD_shl (n : Nat) (f : Nat → Shr) : eqD (.list (shL n f)) (.list (shL n f)) = some (.bool true) := by
  have s := (tup_shaped (fun k => shD (f k)) 1 (by decide) (List.range n) fun i _ => sh_lay (f i)).2
  unfold eqD
  unfold shL
  rw [s, PyData.eqv, eqv_map]
  rw [show ((List.range n).all fun i => PyData.eqv (shD (f i)) (shD (f i))) = true from by
    rw [List.all_eq_true]
    intro i _
    simp [shD, PyData.eqv, PyData.eqvAll]]
  rfl
/-! ### the order -/
def ordN (n y : Nat) : Nat := (y + (n - 1)) % n
def invN (n y : Nat) : Nat := (y + 1) % n
def ordD (n : Nat) : List PyData := (List.range n).map fun y => .int (ordN n y : Nat)
theorem ord_int {n : Nat} (h0 : 1 ≤ n) (y : Nat) : ((y : Int) - 1) % (n : Int) = (ordN n y : Nat) := by
  unfold ordN
  rw [Int.natCast_emod]
  have e : ((y + (n - 1) : Nat) : Int) = ((y : Int) - 1) + (n : Int) := by omega
  rw [e, Int.add_emod_right]
theorem ordL_ok {own : List Nat} {slot k n : Nat} {sl : Sl} {S : Sto} (hk : sl[k]? = some (some (.d (.int n)))) (hw : ∀ y : Nat, ((wipeS sl own).set slot (some (.d (.int y))))[k]? = some (some (.d (.int n))) ∧ ((wipeS sl own).set slot (some (.d (.int y))))[slot]? = some (some (.d (.int y)))) (h0 : 1 ≤ n) (hn : n ≤ 1000) :
    frzE (lcF own (rng1 (consL (var k) nilL)) (.nm slot) yes (bin modD (bin subD (var slot) (cst (.int 1))) (var k))) sl S = .ok (.d (.list (ordD n))) S := by
  have c2 := lcGo_yes (slot := slot) (el := bin modD (bin subD (var slot) (cst (.int 1))) (var k)) (sl := wipeS sl own) (S := S) (f := fun d => match d with | .int z => .int (ordN n z.toNat : Nat) | d => d) (rangeL 0 n) 0 (fun d hd => by
    obtain ⟨y, hy, rfl⟩ := mem_rangeL hd
    have hn' : (0 : Int) < n := by omega
    refine z_bin (d1 := .int ((y : Int) - 1)) (d2 := .int n) (z_bin (d1 := .int y) (d2 := .int 1) (z_var (hw y).2) rfl rfl) (z_var (hw y).1) ?_
    show (if (0 : Int) < (n : Int) then some (PyData.int (((y : Int) - 1) % (n : Int))) else none) = _
    rw [if_pos hn', ord_int h0]
    rfl) (by rw [rangeL_length]; exact sz_ge _ (by omega))
  have c3 := z_frzE (z_lc (own := own) (rng1_ok (z_cons (z_var hk) z_nil) (by omega)) c2)
  have el : (rangeL 0 n).map (fun d => match d with | PyData.int z => PyData.int (ordN n z.toNat : Nat) | d => d) = ordD n := by
    unfold rangeL ordD
    rw [List.map_map]
    apply List.map_congr_left
    intro z _
    show PyData.int (ordN n ((0 : Int) + (z : Nat)).toNat : Nat) = _
    rw [Int.zero_add, Int.toNat_natCast]
  rw [el] at c3
  exact c3
theorem ord_inv {n y : Nat} (hy : y < n) : ordN n (invN n y) = y ∧ invN n (ordN n y) = y := by
  unfold ordN invN
  rw [Nat.mod_add_mod, Nat.mod_add_mod]
  have e1 : y + 1 + (n - 1) = y + n := by omega
  have e2 : y + (n - 1) + 1 = y + n := by omega
  rw [e1, e2, Nat.add_mod_right, Nat.mod_eq_of_lt hy]
  exact ⟨rfl, rfl⟩
theorem ordT {n : Nat} : Ord n (.tuple (ordD n)) (ordN n) (invN n) where
  get y hy S := by
    show okD (L2.atI (ordD n) (y : Int)) S = _
    unfold ordD
    rw [atI_map _ hy]
    rfl
  lt y hy := Nat.mod_lt _ (by omega)
  ltI y hy := Nat.mod_lt _ (by omega)
  oi y hy := (ord_inv hy).1
  io y hy := (ord_inv hy).2
theorem ordLi {n : Nat} : Ord n (.list (ordD n)) (ordN n) (invN n) where
  get y hy S := by
    show okD (L2.atI (ordD n) (y : Int)) S = _
    unfold ordD
    rw [atI_map _ hy]
    rfl
  lt y hy := Nat.mod_lt _ (by omega)
  ltI y hy := Nat.mod_lt _ (by omega)
  oi y hy := (ord_inv hy).1
  io y hy := (ord_inv hy).2
def movM (n : Nat) (M : Nat → Nat → Int) : Nat → Nat → Int := nameM (turnM M 0) (invN n)
def stB (n : Nat) (M : Nat → Nat → Int) : Bool := wEq n (movM n M) M
def isStWebD : DS :=
  (seqS (asgS 1 (blt lenD (consL (var 0) nilL)))
  (rtS (bin eqD (callP withF (consL (callP behindF (consL (var 0) (consL (cst (.int 0)) nilL))) (consL (blt tupD (consL (frzE (lcF [2] (rng1 (consL (var 1) nilL)) (.nm 2) yes (bin modD (bin subD (var 2) (cst (.int 1))) (var 1)))) nilL)) nilL))) (var 0))))
def isStWebF : FnP := runP 3 1 isStWebD
section
variable {n : Nat} {M : Nat → Nat → Int} {b : Int}
theorem len_web {sl : Sl} {S : Sto} {i : Nat} (h : sl[i]? = some (some (.d (webD n M)))) : blt lenD (consL (var i) nilL) sl S = .ok (.d (.int n)) S :=
  z_blt (ds := [webD n M]) (z_consD (z_var h) z_nilD) (by show some (PyData.int _) = _; rw [web_len])
theorem isStWeb_ok (h0 : 1 ≤ n) (hn : n ≤ 1000) (hs : Skew b M) (hb : b ≤ 1000000) : isStWebF [webD n M] = .ok (.bool (stB n M)) := by
  have e1 : asgS 1 (blt lenD (consL (var 0) nilL)) (slots 3 [.d (webD n M)]) [] = .nx [some (.d (webD n M)), some (.d (.int n)), none] [] := z_asg (len_web rfl)
  refine z_runP rfl (z_seq e1 (z_rt (S1 := []) (z_bin (d1 := webD n (movM n M)) (d2 := webD n M) (z_callP (ds := [webD n (turnM M 0), .tuple (ordD n)]) (z_consD (z_callP (ds := [webD n M, .int 0]) (z_consD (z_var rfl) (z_consD rfl z_nilD)) (behind_ok (x := 0) hs hb hn h0)) (z_consD (z_blt (ds := [.list (ordD n)]) (z_consD (ordL_ok (slot := 2) (k := 1) rfl (fun y => ⟨rfl, rfl⟩) h0 hn) z_nilD) rfl) z_nilD)) (with_ok ordT hn)) (z_var rfl) (eqD_web _ _ _)))) rfl
def isStD : DS :=
  (seqS (exS (callP needWebF (consL (var 0) nilL)))
  (rtS (callP isStWebF (consL (var 0) nilL))))
def isStF : FnP := runP 1 1 isStD
theorem isSt_ok (h0 : 1 ≤ n) (hn : n ≤ 6) (hs : Skew b M) (hb : b ≤ 1000) : isStF [webD n M] = .ok (.bool (stB n M)) :=
  z_runP rfl (z_seq (z_ex (z_callP (ds := [webD n M]) (z_consD (z_var rfl) z_nilD) (needWeb_ok h0 hn hb hs))) (z_rt (S1 := []) (z_callP (ds := [webD n M]) (z_consD (z_var rfl) z_nilD) (isStWeb_ok h0 (by omega) hs (by omega))))) rfl
end
end DV
set_option Elab.async false
set_option linter.all false
set_option maxRecDepth 100000
set_option maxHeartbeats 4000000
namespace DV
open PySem
theorem cut_map {α : Type} (f : Nat → α) {a k n : Nat} (h : a + k ≤ n) : (((List.range n).map f).drop a).take k = (List.range k).map fun y => f (a + y) := by
  apply List.ext_getElem
  · simp; omega
  · intro i h1 h2
    simp
/-- the numbers of a row, one after the other -/
def seqG (n : Nat) (M : Nat → Nat → Int) : Nat → Nat → (Nat → Shr) → Option (Nat → Shr)
  | 0, _, g => some g
  | k + 1, at_, g => (newG n M 0 fun y => g (at_ + y)).bind fun v => seqG n M k (at_ + 1) (setF g (n + at_) v)
theorem z_ixE1 {fa fb : DE} {sl : Sl} {S S1 : Sto} {e : Exn} (h : fa sl S = .er e S1) : ixE fa fb sl S = .er e S1 := by
  show (fa sl S).bind _ = _
  rw [h]; rfl
theorem z_consE {fa : DE} {la : DL} {sl : Sl} {S S1 : Sto} {e : Exn} (h : fa sl S = .er e S1) : consL fa la sl S = .er e S1 := by
  show (fa sl S).bind _ = _
  rw [h]; rfl
theorem z_metE {m : List Val → List Val → Option (Val × List Val)} {fo : DE} {la : DL} {sl : Sl} {S S1 : Sto} {x : Val} {p : Nat × List Val} {e : Exn} (h : fo sl S = .ok x S) (hl : lstAt S x = some p) (h2 : la sl S = .er e S1) : metE m fo la sl S = .er e S1 := by
  unfold metE
  rw [h]
  simp only [R.bind, hl, h2]
theorem z_rtE {f : DE} {sl : Sl} {S S1 : Sto} {e : Exn} (h : f sl S = .er e S1) : rtS f sl S = .er e sl S1 := by
  show thenS (f sl S) sl _ = _
  rw [h]; rfl
theorem z_bltE {g : List PyData → Option PyData} {la : DL} {sl : Sl} {S S1 : Sto} {e : Exn} (h : la sl S = .er e S1) : blt g la sl S = .er e S1 := by
  show (la sl S).bind _ = _
  rw [h]; rfl
theorem vals_eq (n : Nat) (f : Nat → Shr) : valsL n f = (shL n f).map .d := by unfold shL valsL; rw [List.map_map]; rfl
theorem dat_vals (n : Nat) (f : Nat → Shr) : DV.dat [.lst (valsL n f)] (.loc 0) = some (.list (shL n f)) := by
  show (allD (valsL n f)).map PyData.list = _
  rw [vals_eq, allD_map]; rfl
theorem shl_len (n : Nat) (f : Nat → Shr) : (shL n f).length = n := by simp [shL]
theorem vals_len (n : Nat) (f : Nat → Shr) : (valsL n f).length = n := by simp [valsL]
theorem vals_app (n : Nat) (g : Nat → Shr) (v : Shr) : valsL n g ++ [.d (shD v)] = valsL (n + 1) (setF g n v) := by
  unfold valsL
  rw [List.range_succ, List.map_append, List.map_cons, List.map_nil]
  congr 1
  · apply List.map_congr_left
    intro k hk
    have := List.mem_range.mp hk
    unfold setF
    rw [if_neg (by omega)]
  · unfold setF
    rw [if_pos rfl]
/-- a slice -/
theorem slE_ok {n a k : Nat} {g : Nat → Shr} {fa : DE} {fl fh : DO} {lo hi : Option Int} {sl : Sl} (h : fa sl [.lst (valsL n g)] = .ok (.loc 0) [.lst (valsL n g)]) (hl : fl sl [.lst (valsL n g)] = .ok lo [.lst (valsL n g)]) (hh : fh sl [.lst (valsL n g)] = .ok hi [.lst (valsL n g)])
    (e1 : HT.sIx n 0 lo = a) (e2 : HT.sIx n n hi = a + k) (hk : a + k ≤ n) :
    slE fa fl fh sl [.lst (valsL n g)] = .ok (.d (.list (shL k fun y => g (a + y)))) [.lst (valsL n g)] := by
  unfold slE
  rw [h]
  simp only [R.bind]
  rw [hl]
  simp only []
  rw [hh]
  simp only []
  unfold slV
  rw [dat_vals]
  simp only []
  unfold cutX
  rw [shl_len, e1, e2, Nat.add_sub_cancel_left]
  unfold shL
  rw [cut_map (fun k => shD (g k)) hk]
theorem someO_ok {f : DE} {sl : Sl} {S : Sto} {i : Int} (h : f sl S = .ok (.d (.int i)) S) : someO f sl S = .ok (some i) S := by
  unfold someO
  rw [h]; rfl
theorem shl_0 {n : Nat} {g : Nat → Shr} (h : 1 ≤ n) {S : Sto} : ixV S (.d (.list (shL n g))) (.d (.int 0)) = .ok (.d (shD (g 0))) S := by
  show okD (L2.atI (shL n g) ((0 : Nat) : Int)) S = _
  unfold shL
  rw [atI_map (fun k => shD (g k)) (show 0 < n by omega)]
  rfl
def stRowB : DS := (exS (metE appM (var 4) (consL (ixE (callP pvalsF (consL (var 0) (consL (tupE (consL (cst (.int 0)) nilL)) (consL (slE (var 4) (someO (var 5)) (someO (bin addD (var 5) (var 3)))) nilL)))) (cst (.int 0))) nilL)))
def stRowD : DS :=
  (seqS (exS (callP needWebF (consL (var 0) nilL)))
  (seqS (ifS (notB (asB (callP isStWebF (consL (var 0) nilL)))) (raS "NotSteady") nilS)
  (seqS (exS (callP needShF (consL (blt lenD (consL (var 0) nilL)) (consL (var 1) nilL))))
  (seqS (ifS (notB (asB (callP isFromF (consL (var 2) (consL (cst (.int 0)) (consL (cst (.int 60)) nilL)))))) (raS "BadTimes") nilS)
  (seqS (parS [3, 4] (consL (blt lenD (consL (var 0) nilL)) (consL (ownE (lstF (var 1))) nilL)))
  (seqS (forS (rng1 (consL (bin subD (var 2) (var 3)) nilL)) (.nm 5) stRowB)
  (rtS (blt tupD (consL (slE (var 4) noO (someO (var 2))) nilL)))))))))
def stRowF : FnP := runP 6 3 stRowD
section
variable {n : Nat} {M : Nat → Nat → Int} {b : Int}
def rowSl (n : Nat) (M : Nat → Nat → Int) (shs many : PyData) (a : Option Val) : Sl := [some (.d (webD n M)), some (.d shs), some (.d many), some (.d (.int n)), some (.loc 0), a]
/-- what a web must keep for one turn at 0 -/
def OneOk (n : Nat) (M : Nat → Nat → Int) : Prop := ∀ a c, a < n → c < n → -1000 ≤ turnM M 0 a c ∧ turnM M 0 a c ≤ 1000
theorem stRowB_ok (h0 : 1 ≤ n) (hn : n ≤ 100) (hs : Skew b M) (hb : b ≤ 1000000) (hw : OneOk n M) {shs many : PyData} {at_ : Nat} {g : Nat → Shr} (hg : ∀ k, k < n + at_ → PS (g k)) (ha : at_ ≤ 1000) :
    match newG n M 0 fun y => g (at_ + y) with
    | some v => stRowB (rowSl n M shs many (some (.d (.int at_)))) [.lst (valsL (n + at_) g)] = .nx (rowSl n M shs many (some (.d (.int at_)))) [.lst (valsL (n + at_ + 1) (setF g (n + at_) v))]
    | none => ∃ sl S, stRowB (rowSl n M shs many (some (.d (.int at_)))) [.lst (valsL (n + at_) g)] = .er tooG sl S := by
  have e1 : slE (var 4) (someO (var 5)) (someO (bin addD (var 5) (var 3))) (rowSl n M shs many (some (.d (.int at_)))) [.lst (valsL (n + at_) g)] = .ok (.d (.list (shL n fun y => g (at_ + y)))) [.lst (valsL (n + at_) g)] := by
    refine slE_ok (lo := some (at_ : Int)) (hi := some ((at_ + n : Nat) : Int)) (z_var rfl) (someO_ok (z_var rfl)) (someO_ok (z_bin (d1 := .int at_) (d2 := .int n) (z_var rfl) (z_var rfl) rfl)) ?_ ?_ (by omega)
    · rw [HT.sIx_nat]; omega
    · rw [HT.sIx_nat]; omega
  have pv := pvals_ok (n := n) (M := M) (l := [0]) (shs := .list (shL n fun y => g (at_ + y))) (.inl rfl) hn (show WebsSm n M [0] from ⟨by omega, ⟨b, hb, hs⟩, hw, True.intro⟩) (fun y hy => hg _ (by omega))
  have ev : valsG n M [0] (fun y => g (at_ + y)) = (newG n M 0 fun y => g (at_ + y)).bind fun v => some (setF (fun y => g (at_ + y)) 0 v) := rfl
  rw [ev] at pv
  have c1 : consL (var 0) (consL (tupE (consL (cst (.int 0)) nilL)) (consL (slE (var 4) (someO (var 5)) (someO (bin addD (var 5) (var 3)))) nilL)) (rowSl n M shs many (some (.d (.int at_)))) [.lst (valsL (n + at_) g)] = .ok ([webD n M, .tuple ([0].map fun k => .int (k : Nat)), .list (shL n fun y => g (at_ + y))].map .d) [.lst (valsL (n + at_) g)] :=
    z_consD (z_var rfl) (z_consD (z_tup (ds := [.int 0]) (z_consD rfl z_nilD) (sz_ge 1 (by decide))) (z_consD e1 z_nilD))
  cases h : newG n M 0 fun y => g (at_ + y) with
  | none =>
    rw [h] at pv
    exact ⟨_, _, z_exE (z_metE (x := .loc 0) (p := (0, valsL (n + at_) g)) (z_var rfl) rfl (z_consE (z_ixE1 (z_callPE c1 pv))))⟩
  | some v =>
    rw [h] at pv
    have e2 : ixE (callP pvalsF (consL (var 0) (consL (tupE (consL (cst (.int 0)) nilL)) (consL (slE (var 4) (someO (var 5)) (someO (bin addD (var 5) (var 3)))) nilL)))) (cst (.int 0)) (rowSl n M shs many (some (.d (.int at_)))) [.lst (valsL (n + at_) g)] = .ok (.d (shD v)) [.lst (valsL (n + at_) g)] :=
      z_ix (z_callP c1 pv) rfl (by rw [shl_0 h0]; unfold setF; rw [if_pos rfl])
    have e3 := z_ex (z_app (fo := var 4) (k := 0) (xs := valsL (n + at_) g) (y := .d (shD v)) (sl := rowSl n M shs many (some (.d (.int at_)))) (S := [.lst (valsL (n + at_) g)]) (la := consL (ixE (callP pvalsF (consL (var 0) (consL (tupE (consL (cst (.int 0)) nilL)) (consL (slE (var 4) (someO (var 5)) (someO (bin addD (var 5) (var 3)))) nilL)))) (cst (.int 0))) nilL) (z_var rfl) (z_cons e2 z_nil) rfl (by rw [vals_len, sizeLine_eq]; omega))
    rw [vals_app] at e3
    exact e3
theorem seqG_ps (h0 : 1 ≤ n) : ∀ (k at_ : Nat) (g g' : Nat → Shr), (∀ j, j < n + at_ → PS (g j)) → seqG n M k at_ g = some g' → ∀ j, j < n + at_ + k → PS (g' j)
  | 0, at_, g, g', hg, h => by
    cases h
    exact hg
  | k + 1, at_, g, g', hg, h => by
    obtain ⟨v, h1, h2⟩ := Option.bind_eq_some_iff.mp (show (newG n M 0 fun y => g (at_ + y)).bind (fun v => seqG n M k (at_ + 1) (setF g (n + at_) v)) = some g' from h)
    have hv := newG_ps (x := 0) h0 (fun y hy => hg _ (by omega)) h1
    have := seqG_ps h0 k (at_ + 1) (setF g (n + at_) v) g' (fun j hj => by
      unfold setF
      split
      · exact hv
      · exact hg j (by omega)) h2
    intro j hj
    exact this j (by omega)
theorem stRow_go (h0 : 1 ≤ n) (hn : n ≤ 100) (hs : Skew b M) (hb : b ≤ 1000000) (hw : OneOk n M) {shs many : PyData} : ∀ (k at_ : Nat) (g : Nat → Shr) (a : Option Val), (∀ k, k < n + at_ → PS (g k)) → at_ + k ≤ 1000 →
    match seqG n M k at_ g with
    | some g' => ∃ a', fgo (.nm 5) stRowB ((List.range' at_ k).map fun i => .int (i : Nat)) (rowSl n M shs many a) [.lst (valsL (n + at_) g)] = .nx (rowSl n M shs many a') [.lst (valsL (n + at_ + k) g')]
    | none => ∃ sl S, fgo (.nm 5) stRowB ((List.range' at_ k).map fun i => .int (i : Nat)) (rowSl n M shs many a) [.lst (valsL (n + at_) g)] = .er tooG sl S := by
  intro k
  induction k with
  | zero =>
    intro at_ g a _ _
    exact ⟨a, rfl⟩
  | succ k ih =>
    intro at_ g a hg ha
    have st := stRowB_ok (shs := shs) (many := many) h0 hn hs hb hw hg (by omega)
    show (match (newG n M 0 fun y => g (at_ + y)).bind fun v => seqG n M k (at_ + 1) (setF g (n + at_) v) with
      | some g' => _
      | none => _)
    rw [List.range'_succ, List.map_cons]
    cases h : newG n M 0 fun y => g (at_ + y) with
    | none =>
      rw [h] at st
      obtain ⟨sl, S, e⟩ := st
      exact ⟨sl, S, fgo_er e⟩
    | some v =>
      rw [h] at st
      have hv := newG_ps (x := 0) h0 (fun y hy => hg _ (by omega)) h
      have r := ih (at_ + 1) (setF g (n + at_) v) (some (.d (.int at_))) (fun j hj => by
        unfold setF
        split
        · exact hv
        · exact hg j (by omega)) (by omega)
      simp only [Option.bind_some]
      cases h2 : seqG n M k (at_ + 1) (setF g (n + at_) v) with
      | none =>
        rw [h2] at r
        obtain ⟨sl, S, e⟩ := r
        exact ⟨sl, S, fgo_cons st e⟩
      | some g' =>
        rw [h2] at r
        obtain ⟨a', e⟩ := r
        refine ⟨a', ?_⟩
        rw [show n + at_ + (k + 1) = n + (at_ + 1) + k by omega]
        exact fgo_cons st e
theorem rangeL_0 (k : Nat) : rangeL 0 k = (List.range' 0 k).map fun i => .int (i : Nat) := by
  unfold rangeL
  rw [List.range_eq_range']
  apply List.map_congr_left
  intro i _
  rw [Int.zero_add]
theorem startOk_ps {p : Shr} (h : StartOk p) : PS p := by
  obtain ⟨h1, h2, h3, h4, _⟩ := h
  have l1 := log_small (a := p.1) (by omega) (by omega)
  have l2 := log_small (a := p.2) (by omega) (by omega)
  exact ⟨⟨by omega, by omega, by omega⟩, by omega⟩
/-- the row of a steady web -/
theorem stRow_ok (h0 : 1 ≤ n) (hn : n ≤ 6) (hs : Skew b M) (hb : b ≤ 1000) (hw : OneOk n M) {f : Nat → Shr} (hf : ∀ k, k < n → StartOk (f k)) {many : Nat} (hm : many ≤ 60) :
    stRowF [webD n M, .tuple (shL n f), .int many] = if stB n M = true then (match seqG n M (many - n) 0 f with
      | some g => .ok (.tuple (shL many g))
      | none => .er tooG) else .er ⟨"NotSteady", []⟩ := by
  have p1 : exS (callP needWebF (consL (var 0) nilL)) (slots 6 [.d (webD n M), .d (.tuple (shL n f)), .d (.int many)]) [] = .nx (slots 6 [.d (webD n M), .d (.tuple (shL n f)), .d (.int many)]) [] := z_ex (z_callP (ds := [webD n M]) (z_consD (z_var rfl) z_nilD) (needWeb_ok h0 hn hb hs))
  have p2 : asB (callP isStWebF (consL (var 0) nilL)) (slots 6 [.d (webD n M), .d (.tuple (shL n f)), .d (.int many)]) [] = .ok (stB n M) [] := z_asB (z_callP (ds := [webD n M]) (z_consD (z_var rfl) z_nilD) (isStWeb_ok h0 (by omega) hs (by omega)))
  cases hst : stB n M with
  | false =>
    rw [hst] at p2
    rw [if_neg (by decide)]
    exact z_runP (r := .er ⟨"NotSteady", []⟩ (slots 6 [.d (webD n M), .d (.tuple (shL n f)), .d (.int many)]) []) rfl (z_seq p1 (z_seqE (z_ifT (z_notF p2) rfl))) rfl
  | true =>
    rw [hst] at p2
    rw [if_pos rfl]
    have p3 : exS (callP needShF (consL (blt lenD (consL (var 0) nilL)) (consL (var 1) nilL))) (slots 6 [.d (webD n M), .d (.tuple (shL n f)), .d (.int many)]) [] = .nx (slots 6 [.d (webD n M), .d (.tuple (shL n f)), .d (.int many)]) [] :=
      z_ex (z_callP (ds := [.int n, .tuple (shL n f)]) (z_consD (len_web rfl) (z_consD (z_var rfl) z_nilD)) (needSh_ok (by omega) hf))
    have p4 : asB (callP isFromF (consL (var 2) (consL (cst (.int 0)) (consL (cst (.int 60)) nilL)))) (slots 6 [.d (webD n M), .d (.tuple (shL n f)), .d (.int many)]) [] = .ok true [] := by
      refine z_asB (z_callP (ds := [.int many, .int 0, .int 60]) (z_consD (z_var rfl) (z_consD rfl (z_consD rfl z_nilD))) ?_)
      rw [isFrom_int, decide_eq_true (by omega)]
    have p5 : parS [3, 4] (consL (blt lenD (consL (var 0) nilL)) (consL (ownE (lstF (var 1))) nilL)) (slots 6 [.d (webD n M), .d (.tuple (shL n f)), .d (.int many)]) [] = .nx (rowSl n M (.tuple (shL n f)) (.int many) none) [.lst (valsL n f)] := by
      refine z_par (z_cons (len_web rfl) (z_cons (z_own (S1 := []) (xs := valsL n f) ?_) z_nil)) rfl (by decide)
      rw [vals_eq]
      exact z_lst1 (z_var rfl)
    have p6 : rng1 (consL (bin subD (var 2) (var 3)) nilL) (rowSl n M (.tuple (shL n f)) (.int many) none) [.lst (valsL n f)] = .ok (rangeL 0 (many - n)) [.lst (valsL n f)] := by
      have := rng1_ok' (la := consL (bin subD (var 2) (var 3)) nilL) (sl := rowSl n M (.tuple (shL n f)) (.int many) none) (S := [.lst (valsL n f)]) (j := (many : Int) - n) (z_cons (z_bin (d1 := .int many) (d2 := .int n) (z_var rfl) (z_var rfl) rfl) z_nil) (by rw [two62]; omega) (by rw [two62]; omega)
      rwa [show ((many : Int) - n).toNat = many - n by omega] at this
    have go := stRow_go (shs := .tuple (shL n f)) (many := .int many) h0 (by omega) hs (by omega) hw (many - n) 0 f none (fun k hk => startOk_ps (hf k (by omega))) (by omega)
    rw [← rangeL_0] at go
    cases h : seqG n M (many - n) 0 f with
    | none =>
      rw [h] at go
      obtain ⟨sl, S, e⟩ := go
      exact z_runP (r := .er tooG sl S) rfl (z_seq p1 (z_seq (z_ifF (z_notT p2) z_nop) (z_seq p3 (z_seq (z_ifF (z_notT p4) z_nop) (z_seq p5 (z_seqE (z_for p6 e))))))) rfl
    | some g =>
      rw [h] at go
      obtain ⟨a', e⟩ := go
      have e7 : slE (var 4) noO (someO (var 2)) (rowSl n M (.tuple (shL n f)) (.int many) a') [.lst (valsL (n + 0 + (many - n)) g)] = .ok (.d (.list (shL many fun y => g (0 + y)))) [.lst (valsL (n + 0 + (many - n)) g)] := by
        refine slE_ok (a := 0) (lo := none) (hi := some (many : Int)) (z_var rfl) rfl (someO_ok (z_var rfl)) rfl ?_ (by omega)
        rw [HT.sIx_nat]; omega
      have e8 : (fun y => g (0 + y)) = g := by funext y; rw [Nat.zero_add]
      rw [e8] at e7
      exact z_runP rfl (z_seq p1 (z_seq (z_ifF (z_notT p2) z_nop) (z_seq p3 (z_seq (z_ifF (z_notT p4) z_nop) (z_seq p5 (z_seq (z_for p6 e) (z_rt (z_blt (ds := [.list (shL many g)]) (z_consD e7 z_nilD) rfl)))))))) rfl
end
end DV
set_option Elab.async false
set_option linter.all false
set_option maxRecDepth 100000
set_option maxHeartbeats 4000000
namespace DV
open PySem
theorem lcGo_thread {slot : Nat} {el : DE} {sl : Sl} {I : Sto → Prop} {Q : PyData → Prop} : ∀ (ds : List PyData) (n : Nat) (S : Sto), I S → (∀ d ∈ ds, ∀ S, I S → ∃ x S', el (sl.set slot (some (.d d))) S = .ok (.d x) S' ∧ I S' ∧ Q x) → n + ds.length ≤ sizeLine →
    ∃ (xs : List PyData) (S' : Sto), lcGo (.nm slot) yes el sl n ds S = .ok (xs.map .d) S' ∧ I S' ∧ xs.length = ds.length ∧ ∀ x ∈ xs, Q x
  | [], _, S, hI, _, _ => ⟨[], S, rfl, hI, rfl, fun _ h => absurd h List.not_mem_nil⟩
  | d :: ds, n, S, hI, h, hn => by
    simp only [List.length_cons] at hn
    obtain ⟨x, S1, e1, i1, q1⟩ := h d List.mem_cons_self S hI
    obtain ⟨xs, S2, e2, i2, l2, q2⟩ := lcGo_thread ds (n + 1) S1 i1 (fun d hd => h d (List.mem_cons_of_mem _ hd)) (by omega)
    refine ⟨x :: xs, S2, ?_, i2, by simp [l2], fun y hy => ?_⟩
    · unfold lcGo
      simp only [setT, yes, nb, if_true, e1, show n < sizeLine by omega, e2, R.bind, List.map_cons]
    · rcases List.mem_cons.mp hy with rfl | hy
      · exact q1
      · exact q2 y hy
/-- a first share -/
def StartS (p : Shr) : Prop := StartOk p ∧ p.1 ≤ 7 ∧ p.2 ≤ 7
def startSB (p : Shr) : Bool := decide (1 ≤ p.1) && decide (p.1 ≤ 7) && decide (1 ≤ p.2) && decide (p.2 ≤ 7) && Nat.gcd p.1.natAbs p.2.natAbs == 1
theorem startSB_ok {p : Shr} (h : startSB p = true) : StartS p := by
  unfold startSB at h
  simp only [Bool.and_eq_true, decide_eq_true_eq, beq_iff_eq] at h
  obtain ⟨⟨⟨⟨h1, h2⟩, h3⟩, h4⟩, h5⟩ := h
  exact ⟨⟨h1, by omega, h3, by omega, h5⟩, h2, h4⟩
theorem share_start {t b : Int} (h1 : 1 ≤ t) (h2 : t ≤ 7) (h3 : 1 ≤ b) (h4 : b ≤ 5) : StartS (shareZ t b) := by
  have ht : t = 1 ∨ t = 2 ∨ t = 3 ∨ t = 4 ∨ t = 5 ∨ t = 6 ∨ t = 7 := by omega
  have hb : b = 1 ∨ b = 2 ∨ b = 3 ∨ b = 4 ∨ b = 5 := by omega
  apply startSB_ok
  rcases ht with rfl | rfl | rfl | rfl | rfl | rfl | rfl <;> rcases hb with rfl | rfl | rfl | rfl | rfl <;> decide +kernel
def startsD : DS :=
  (rtS (blt tupD (consL (frzE (lcF [2] (rng1 (consL (var 1) nilL)) (.nm 2) yes (callP shareF (consL (bin addD (cst (.int 1)) (callR takenF (var 0) (consL (cst (.int 7)) nilL))) (consL (bin addD (cst (.int 1)) (callR takenF (var 0) (consL (cst (.int 5)) nilL))) nilL))))) nilL)))
def startsF : FnR := runR 3 2 startsD
theorem shl_of : ∀ (xs : List PyData), (∀ x ∈ xs, ∃ p, x = shD p ∧ StartS p) → ∃ ps : List Shr, xs = ps.map shD ∧ ∀ p ∈ ps, StartS p
  | [], _ => ⟨[], rfl, fun _ h => absurd h List.not_mem_nil⟩
  | x :: xs, h => by
    obtain ⟨p, e, hp⟩ := h x List.mem_cons_self
    obtain ⟨ps, e2, hps⟩ := shl_of xs fun y hy => h y (List.mem_cons_of_mem _ hy)
    refine ⟨p :: ps, by rw [e, e2]; rfl, fun q hq => ?_⟩
    rcases List.mem_cons.mp hq with rfl | hq
    · exact hp
    · exact hps q hq
theorem starts_ok {row : List PyData} {n : Nat} (hr : RowOk row) (hn : n ≤ 1000) : ∃ f row', startsF [.int n] row = .ok (.tuple (shL n f)) row' ∧ RowOk row' ∧ ∀ k, k < n → StartS (f k) := by
  obtain ⟨xs, S', e, ⟨row', rfl, ok⟩, hl, hq⟩ := lcGo_thread (slot := 2) (el := callP shareF (consL (bin addD (cst (.int 1)) (callR takenF (var 0) (consL (cst (.int 7)) nilL))) (consL (bin addD (cst (.int 1)) (callR takenF (var 0) (consL (cst (.int 5)) nilL))) nilL))) (sl := wipeS (slots 3 [.loc 0, .d (.int n)]) [2]) (I := fun S => ∃ row', S = [.lst (row'.map .d)] ∧ RowOk row') (Q := fun x => ∃ p, x = shD p ∧ StartS p) (rangeL 0 n) 0 [.lst (row.map .d)] ⟨row, rfl, hr⟩ (fun d hd S hI => by
    obtain ⟨row0, rfl, ok0⟩ := hI
    obtain ⟨t, row1, e1, ok1, t0, t1⟩ := taken_ok ok0 (many := 7) (by decide) (by decide +kernel)
    obtain ⟨b, row2, e2, ok2, b0, b1⟩ := taken_ok ok1 (many := 5) (by decide) (by decide +kernel)
    have lg : (1 + b).natAbs.log2 < 8000 := Nat.lt_trans (log_small (by omega) (by omega)) (by decide)
    refine ⟨shD (shareZ (1 + t) (1 + b)), _, z_callP (ds := [.int (1 + t), .int (1 + b)]) (z_consD (z_bin rfl (z_callR (k := 0) (S1 := [.lst (row0.map .d)]) (S2 := [.lst (row0.map .d)]) (ds := [.int 7]) (row := row0) (z_var rfl) rfl rfl e1) rfl) (z_consD (z_bin rfl (z_callR (k := 0) (S1 := [.lst (row1.map .d)]) (S2 := [.lst (row1.map .d)]) (ds := [.int 5]) (row := row1) (z_var rfl) rfl rfl e2) rfl) z_nilD)) (share_ok (by omega) lg), ⟨row2, rfl, ok2⟩, _, rfl, share_start (by omega) (by omega) (by omega) (by omega)⟩) (by rw [rangeL_length]; exact sz_ge _ (by omega))
  obtain ⟨ps, rfl, hps⟩ := shl_of xs hq
  rw [rangeL_length, List.length_map] at hl
  have hx : ps.map shD = shL n fun k => ps.getD k (1, 1) := by
    unfold shL
    apply List.ext_getElem
    · simp [hl]
    · intro i h1 h2
      simp at h1 h2
      simp [List.getD, h1]
  refine ⟨fun k => ps.getD k (1, 1), row', ?_, ok, fun k hk => ?_⟩
  · rw [← hx]
    exact z_runR rfl (z_rt (z_blt (ds := [.list (ps.map shD)]) (z_consD (z_frzE (z_lc (own := [2]) (rng1_ok (z_cons (z_var rfl) z_nil) (by omega)) e)) z_nilD) rfl)) (z_outR (S := [.lst (row'.map .d)]) rfl)
  · have hk' : k < ps.length := by omega
    have : ps.getD k (1, 1) = ps[k] := by simp [List.getD, hk']
    show StartS (ps.getD k (1, 1))
    rw [this]
    exact hps _ (List.getElem_mem hk')
/-! ### likeness -/
def alikeD (R : FnP) : DS :=
  (seqS (ifS (asB (un (isiD2 "tuple" "list") (var 1))) (seqS (ifS (orB (notB (asB (un (isiD2 "tuple" "list") (var 0)))) (asB (bin neD (isiE "list" (var 0)) (isiE "list" (var 1))))) (rtS (cst (.bool false))) nilS)
  (seqS (ifS (asB (bin neD (blt lenD (consL (var 0) nilL)) (blt lenD (consL (var 1) nilL)))) (rtS (cst (.bool false))) nilS)
  (rtS (bin eqD (frzE (lcF [2] (rng1 (consL (blt lenD (consL (var 1) nilL)) nilL)) (.nm 2) (notB (asB (callP R (consL (ixE (var 0) (var 2)) (consL (ixE (var 1) (var 2)) nilL))))) (var 2))) (frzE (szF nilL)))))) nilS)
  (seqS (ifS (asB (isiE "dict" (var 1))) (seqS (ifS (orB (notB (asB (isiE "dict" (var 0)))) (asB (bin neD (blt sortD (consL (var 0) nilL)) (blt sortD (consL (var 1) nilL))))) (rtS (cst (.bool false))) nilS)
  (rtS (bin eqD (frzE (lcF [3] (seqI (var 1)) (.nm 3) (notB (asB (callP R (consL (ixE (var 0) (var 3)) (consL (ixE (var 1) (var 3)) nilL))))) (var 3))) (frzE (szF nilL))))) nilS)
  (seqS (ifS (orB (asB (bin isN (var 1) (cst .none))) (asB (isiE "str" (var 1)))) (rtS (andV (bin eqD (var 0) (var 1)) (bin eqD (isiE "str" (var 0)) (isiE "str" (var 1))))) nilS)
  (rtS (andV (isiE "int" (var 0)) (andV (bin eqD (isiE "bool" (var 0)) (isiE "bool" (var 1))) (bin eqD (var 0) (var 1))))))))
theorem neD_bool (a b : Bool) : neD (.bool a) (.bool b) = some (.bool (a != b)) := by
  cases a <;> cases b <;> simp [neD, SeqAt.shaped, PyData.canLay0, PyData.depth, PyData.eqv]
theorem eqD_bool (a b : Bool) : eqD (.bool a) (.bool b) = some (.bool (a == b)) := by
  cases a <;> cases b <;> simp [eqD, SeqAt.shaped, PyData.canLay0, PyData.depth, PyData.eqv]
theorem eqD_nil : eqD (.list []) (.list []) = some (.bool true) := by
  simp [eqD, SeqAt.shaped, PyData.canLay0, PyData.canLayAll0, PyData.depth, PyData.depthAll, PyData.eqv, PyData.eqvAll]
theorem alike_int (R : FnP) (a : Int) : runP 4 2 (alikeD R) [.int a, .int a] = .ok (.bool true) :=
  z_runP rfl (z_seq (z_ifF (S1 := []) (z_asB (z_un (z_var rfl) (by rfl))) z_nop) (z_seq (z_ifF (S1 := []) (z_asB (z_un (z_var rfl) (by rfl))) z_nop) (z_seq (z_ifF (S1 := []) (z_orF (z_asB (z_bin (z_var rfl) rfl rfl)) (z_asB (z_un (z_var rfl) (by rfl)))) z_nop)
    (z_rt (S1 := []) (z_andVT (z_un (z_var rfl) (by rfl)) (z_andVT (z_bin (d1 := .bool false) (d2 := .bool false) (z_un (z_var rfl) (by rfl)) (z_un (z_var rfl) (by rfl)) (eqD_bool _ _)) (z_bin (d1 := .int a) (d2 := .int a) (z_var rfl) (z_var rfl) (by rw [eqD_int, decide_eq_true rfl])))))))) rfl
theorem alike_bool (R : FnP) (a : Bool) : runP 4 2 (alikeD R) [.bool a, .bool a] = .ok (.bool true) :=
  z_runP rfl (z_seq (z_ifF (S1 := []) (z_asB (z_un (z_var rfl) (by rfl))) z_nop) (z_seq (z_ifF (S1 := []) (z_asB (z_un (z_var rfl) (by rfl))) z_nop) (z_seq (z_ifF (S1 := []) (z_orF (z_asB (z_bin (z_var rfl) rfl rfl)) (z_asB (z_un (z_var rfl) (by rfl)))) z_nop)
    (z_rt (S1 := []) (z_andVT (z_un (z_var rfl) (by rfl)) (z_andVT (z_bin (d1 := .bool true) (d2 := .bool true) (z_un (z_var rfl) (by rfl)) (z_un (z_var rfl) (by rfl)) (eqD_bool _ _)) (z_bin (d1 := .bool a) (d2 := .bool a) (z_var rfl) (z_var rfl) (by rw [eqD_bool, beq_self_eq_true])))))))) rfl
theorem alike_tup {R : FnP} {n : Nat} {g : Nat → PyData} (hn : n ≤ 1000) (h : ∀ k, k < n → R [g k, g k] = .ok (.bool true)) : runP 4 2 (alikeD R) [.tuple ((List.range n).map g), .tuple ((List.range n).map g)] = .ok (.bool true) := by
  have hl : ((List.range n).map g).length = n := by simp
  have len : ∀ {i : Nat} {sl : Sl} {S : Sto}, sl[i]? = some (some (.d (.tuple ((List.range n).map g)))) → blt lenD (consL (var i) nilL) sl S = .ok (.d (.int n)) S := fun h => z_blt (ds := [.tuple ((List.range n).map g)]) (z_consD (z_var h) z_nilD) (by show some (PyData.int _) = _; rw [hl])
  have c2 := lcGo_map (slot := 2) (tt := notB (asB (callP R (consL (ixE (var 0) (var 2)) (consL (ixE (var 1) (var 2)) nilL))))) (el := var 2) (sl := wipeS (slots 4 [.d (.tuple ((List.range n).map g)), .d (.tuple ((List.range n).map g))]) [2]) (S := []) (p := fun _ => false) (f := fun d => d) (rangeL 0 n) 0 (fun d hd => by
    obtain ⟨k, hk, rfl⟩ := mem_rangeL hd
    have ix : ∀ S : Sto, ixV S (.d (.tuple ((List.range n).map g))) (.d (.int (k : Nat))) = .ok (.d (g k)) S := fun S => by
      show okD (L2.atI ((List.range n).map g) (k : Int)) S = _
      rw [atI_map _ hk]
      rfl
    exact z_notT (z_asB (z_callP (ds := [g k, g k]) (z_consD (z_ix (z_var rfl) (z_var rfl) (ix _)) (z_consD (z_ix (z_var rfl) (z_var rfl) (ix _)) z_nilD)) (h k hk)))) (fun d hd hf => by cases hf) (by rw [rangeL_length]; exact sz_ge _ (by omega))
  have ef : (rangeL 0 n).filter (fun _ => false) = [] := List.filter_eq_nil_iff.mpr fun _ _ => by simp
  rw [ef] at c2
  refine z_runP rfl (z_seqR (z_ifT (S1 := []) (z_asB (z_un (z_var rfl) (by rfl))) (z_seq (z_ifF (S1 := []) (z_orF (z_notT (z_asB (z_un (z_var rfl) (by rfl)))) (z_asB (z_bin (d1 := .bool false) (d2 := .bool false) (z_un (z_var rfl) (by rfl)) (z_un (z_var rfl) (by rfl)) (neD_bool _ _)))) z_nop) (z_seq (z_ifF (S1 := []) (z_asB (z_bin (d1 := .int n) (d2 := .int n) (len rfl) (len rfl) (by rw [neD_int]; simp))) z_nop)
    (z_rt (S1 := []) (z_bin (d1 := .list []) (d2 := .list []) (z_frzE (z_lc (own := [2]) (rng1_ok (z_cons (len rfl) z_nil) (by omega)) c2)) (z_frzE (ds := []) (z_sz z_nilD (Nat.zero_le _))) eqD_nil)))))) rfl
/-! ### rows -/
def isRowD : DS :=
  (rtS (andV (isiE "tuple" (var 1)) (andV (bin leI (blt lenD (consL (var 1) nilL)) (cst (.int 200))) (blt allBD (consL (frzE (lcF [2] (seqI (var 1)) (.nm 2) yes (callP isFromF (consL (var 2) (consL (cst (.int 0)) (consL (bin subD (var 0) (cst (.int 1))) nilL)))))) nilL)))))
def isRowF : FnP := runP 3 2 isRowD
def needRowD : DS :=
  (seqS (exS (callP needWebF (consL (var 0) nilL)))
  (ifS (notB (asB (callP isRowF (consL (blt lenD (consL (var 0) nilL)) (consL (var 1) nilL))))) (raS "BadRow") nilS))
def needRowF : FnP := runP 2 2 needRowD
def rowT (m : Nat) : PyData := .tuple ((List.range m).map fun k => .int (k : Nat))
theorem isRow_ok {n m : Nat} (hm : m ≤ n) (hn : n ≤ 100) : isRowF [.int n, rowT m] = .ok (.bool true) := by
  have hl : ((List.range m).map fun k : Nat => PyData.int (k : Nat)).length = m := by simp
  have c2 := lcGo_yes (slot := 2) (el := callP isFromF (consL (var 2) (consL (cst (.int 0)) (consL (bin subD (var 0) (cst (.int 1))) nilL)))) (sl := wipeS (slots 3 [.d (.int n), .d (rowT m)]) [2]) (S := []) (f := fun _ => .bool true) ((List.range m).map fun k => .int (k : Nat)) 0 (fun d hd => by
    obtain ⟨k, hk, rfl⟩ := List.mem_map.mp hd
    have := List.mem_range.mp hk
    refine z_callP (ds := [.int (k : Nat), .int 0, .int ((n : Int) - 1)]) (z_consD (z_var rfl) (z_consD rfl (z_consD (z_bin (d1 := .int n) (d2 := .int 1) (z_var rfl) rfl rfl) z_nilD))) ?_
    rw [isFrom_int, decide_eq_true (by omega)]) (by rw [hl]; exact sz_ge _ (by omega))
  refine z_runP rfl (z_rt (S1 := []) (z_andVT (z_un (z_var rfl) (by rfl)) (z_andVT (z_bin (d1 := .int m) (d2 := .int 200) (z_blt (ds := [rowT m]) (z_consD (z_var rfl) z_nilD) (by show some (PyData.int _) = _; rw [hl])) rfl (by
    show some (PyData.bool (decide ((m : Int) ≤ 200))) = _
    rw [decide_eq_true (by omega)])) (z_blt (z_consD (z_frzE (z_lc (own := [2]) (z_seqT (z_var rfl)) c2)) z_nilD) (allBD_true (fun d hd => by
    obtain ⟨_, _, rfl⟩ := List.mem_map.mp hd
    rfl)))))) rfl
theorem needRow_ok {n m : Nat} {M : Nat → Nat → Int} {b : Int} (h0 : 1 ≤ n) (hn : n ≤ 6) (hs : Skew b M) (hb : b ≤ 1000) (hm : m ≤ n) : needRowF [webD n M, rowT m] = .ok .none :=
  z_runP rfl (z_seq (z_ex (z_callP (ds := [webD n M]) (z_consD (z_var rfl) z_nilD) (needWeb_ok h0 hn hb hs))) (z_ifF (S1 := []) (z_notT (z_asB (z_callP (ds := [.int n, rowT m]) (z_consD (len_web rfl) (z_consD (z_var rfl) z_nilD)) (isRow_ok hm (by omega))))) z_nop)) rfl
def valuesD : DS :=
  (seqS (exS (callP needRowF (consL (var 0) (consL (var 1) nilL))))
  (seqS (exS (callP needShF (consL (blt lenD (consL (var 0) nilL)) (consL (var 2) nilL))))
  (rtS (blt tupD (consL (callP pvalsF (consL (var 0) (consL (var 1) (consL (var 2) nilL)))) nilL)))))
def valuesF : FnP := runP 3 3 valuesD
theorem values_ok {n m : Nat} {M : Nat → Nat → Int} {b : Int} {f : Nat → Shr} (h0 : 1 ≤ n) (hn : n ≤ 6) (hs : Skew b M) (hb : b ≤ 1000) (hm : m ≤ n) (hf : ∀ k, k < n → StartOk (f k)) (hw : WebsSm n M (List.range m)) {f' : Nat → Shr} (h : valsG n M (List.range m) f = some f') :
    valuesF [webD n M, rowT m, .tuple (shL n f)] = .ok (.tuple (shL n f')) := by
  have pv := pvals_ok (n := n) (M := M) (l := List.range m) (shs := .tuple (shL n f)) (.inr rfl) (by omega) hw (fun y hy => startOk_ps (hf y hy))
  rw [h] at pv
  exact z_runP rfl (z_seq (z_ex (z_callP (ds := [webD n M, rowT m]) (z_consD (z_var rfl) (z_consD (z_var rfl) z_nilD)) (needRow_ok h0 hn hs hb hm))) (z_seq (z_ex (z_callP (ds := [.int n, .tuple (shL n f)]) (z_consD (len_web rfl) (z_consD (z_var rfl) z_nilD)) (needSh_ok (by omega) hf))) (z_rt (S1 := []) (z_blt (ds := [.list (shL n f')]) (z_consD (z_callP (ds := [webD n M, rowT m, .tuple (shL n f)]) (z_consD (z_var rfl) (z_consD (z_var rfl) (z_consD (z_var rfl) z_nilD))) pv) z_nilD) rfl)))) rfl
end DV
set_option Elab.async false
set_option linter.all false
set_option maxRecDepth 100000
set_option maxHeartbeats 4000000
namespace DV
open PySem
theorem sm_smB {p : Shr} (h : Sm p) : smB p = true := by
  unfold smB
  rw [decide_eq_true h.1, decide_eq_true h.2.1, decide_eq_true h.2.2]
  rfl
theorem intoO_of_powG {v : Shr} (hv : Sm v) : ∀ (k : Nat) (p q : Shr), Sm p → powG v k p = some q → intoO v k p = some q
  | 0, p, q, _, h => h
  | k + 1, p, q, hp, h => by
    have h' : (if great (timesZ p v) then none else powG v k (timesZ p v)) = some q := h
    cases hg : great (timesZ p v) with
    | true => rw [hg] at h'; cases h'
    | false =>
      rw [hg] at h'
      show (if smB p && smB v then intoO v k (timesZ p v) else none) = some q
      rw [sm_smB hp, sm_smB hv]
      exact intoO_of_powG hv k _ q (great_sm hg (timesZ_pos hp.2.1 hv.2.1)) h'
theorem prodG_append : ∀ (l l2 : List (Shr × Nat)) (p : Shr), prodG (l ++ l2) p = (prodG l p).bind (prodG l2)
  | [], _, _ => rfl
  | z :: l, l2, p => by
    show (powG z.1 z.2 p).bind (prodG (l ++ l2)) = ((powG z.1 z.2 p).bind (prodG l)).bind (prodG l2)
    cases powG z.1 z.2 p with
    | none => rfl
    | some q => exact prodG_append l l2 q
theorem prodG_one (z : Shr × Nat) (p : Shr) : prodG [z] p = powG z.1 z.2 p := by
  show (powG z.1 z.2 p).bind (prodG []) = _
  cases powG z.1 z.2 p with
  | none => rfl
  | some q => rfl
theorem insG_succ (k : Nat) (f : Nat → Shr) (g : Nat → Int) (p : Shr) : prodG (insG (k + 1) f g) p = (prodG (insG k f g) p).bind (powG (f k) (g k).toNat) := by
  unfold insG
  rw [List.range_succ, List.map_append, prodG_append]
  congr 1
  funext q
  exact prodG_one _ q
theorem ioO_of_prodG {n x : Nat} {M : Nat → Nat → Int} {f : Nat → Shr} (hsk : ∀ y, M x y = - M y x) (hf : ∀ y, y < n → Sm (f y)) : ∀ k, k ≤ n → ∀ i o, prodG (insG k f fun y => M y x) (1, 1) = some i → prodG (insG k f fun y => M x y) (1, 1) = some o → ioO M x f k = some (i, o)
  | 0, _, i, o, h1, h2 => by
    have e1 : (1, 1) = i := Option.some.inj h1
    have e2 : (1, 1) = o := Option.some.inj h2
    rw [← e1, ← e2]; rfl
  | k + 1, hk, i, o, h1, h2 => by
    rw [insG_succ] at h1 h2
    obtain ⟨i1, a1, a2⟩ := Option.bind_eq_some_iff.mp h1
    obtain ⟨o1, b1, b2⟩ := Option.bind_eq_some_iff.mp h2
    have ih := ioO_of_prodG hsk hf k (by omega) i1 o1 a1 b1
    have si := prodG_sm _ _ _ one_sm1.sm (insG_all (Q := Sm) fun y hy => hf y (by omega)) a1
    have so := prodG_sm _ _ _ one_sm1.sm (insG_all (Q := Sm) fun y hy => hf y (by omega)) b1
    show (ioO M x f k).bind (stepO (M k x) (f k)) = _
    rw [ih, Option.bind_some]
    unfold stepO
    have a2' := intoO_of_powG (hf k (by omega)) _ _ _ si a2
    have b2' := intoO_of_powG (hf k (by omega)) _ _ _ so b2
    rw [hsk k] at b2'
    by_cases c : 0 < M k x
    · rw [if_pos c]
      have e1 : (M k x).natAbs = (M k x).toNat := by omega
      have e2 : (-(M k x)).toNat = 0 := by omega
      rw [e2] at b2'
      have e3 : o1 = o := Option.some.inj b2'
      rw [e1, a2', e3]; rfl
    · rw [if_neg c]
      have e1 : (M k x).natAbs = (-(M k x)).toNat := by omega
      have e2 : (M k x).toNat = 0 := by omega
      rw [e2] at a2'
      have e3 : i1 = i := Option.some.inj a2'
      show (intoO (f k) (M k x).natAbs o1).map _ = _
      rw [e1, b2', e3]; rfl
theorem newO_of_newG {n x : Nat} {M : Nat → Nat → Int} {f : Nat → Shr} {v : Shr} (hsk : ∀ y, M x y = - M y x) (hx : x < n) (hf : ∀ y, y < n → PS (f y)) (h : newG n M x f = some v) : newO n M x f = some v := by
  unfold newG at h
  obtain ⟨i, h1, h2⟩ := Option.bind_eq_some_iff.mp h
  obtain ⟨o, h3, h4⟩ := Option.bind_eq_some_iff.mp h2
  have si := prodG_sm1 _ _ _ one_sm1 (insG_all (Q := Sm) fun y hy => (hf y hy).1) h1
  have so := prodG_sm1 _ _ _ one_sm1 (insG_all (Q := Sm) fun y hy => (hf y hy).1) h3
  have sT : Sm ((f x).2, (f x).1) := ⟨(hf x hx).1.2.2, (hf x hx).2, (hf x hx).1.1⟩
  unfold newO
  rw [ioO_of_prodG hsk (fun y hy => (hf y hy).1) n (Nat.le_refl _) i o h1 h3, Option.bind_some]
  simp only [sm_smB si.sm, sm_smB so.sm, sm_smB (plus_sm si so), sm_smB sT, Bool.and_true, if_true]
  split at h4
  · cases h4
  · exact h4
/-! ### plain products -/
theorem ediv_gcd_mul {k a g : Nat} (hk : 0 < k) : ((k : Int) * a) / ((k * g : Nat) : Int) = (a : Int) / (g : Int) := by
  rw [Int.natCast_mul]
  exact Int.mul_ediv_mul_of_pos _ _ (by omega)
theorem shareZ_mul {k t b : Int} (hk : 0 < k) : shareZ (k * t) (k * b) = shareZ t b := by
  unfold shareZ
  have e : Nat.gcd (k * t).natAbs (k * b).natAbs = k.natAbs * Nat.gcd t.natAbs b.natAbs := by
    rw [Int.natAbs_mul, Int.natAbs_mul, Nat.gcd_mul_left]
  have ek : (k.natAbs : Int) = k := by omega
  rw [e, Int.natCast_mul, ek, Int.mul_ediv_mul_of_pos _ _ hk, Int.mul_ediv_mul_of_pos _ _ hk]
/-- a share in lowest terms times another -/
theorem times_share {t b : Int} {v : Shr} (hb : 0 < b) : timesZ (shareZ t b) v = shareZ (t * v.1) (b * v.2) := by
  have g0 : 0 < Nat.gcd t.natAbs b.natAbs := Nat.gcd_pos_of_pos_right _ (by omega)
  have d1 : ((Nat.gcd t.natAbs b.natAbs : Nat) : Int) ∣ t := Int.ofNat_dvd_left.mpr (Nat.gcd_dvd_left _ _)
  have d2 : ((Nat.gcd t.natAbs b.natAbs : Nat) : Int) ∣ b := Int.ofNat_dvd_left.mpr (Nat.gcd_dvd_right _ _)
  have e1 : t = (Nat.gcd t.natAbs b.natAbs : Nat) * (t / (Nat.gcd t.natAbs b.natAbs : Nat)) := (Int.mul_ediv_cancel' d1).symm
  have e2 : b = (Nat.gcd t.natAbs b.natAbs : Nat) * (b / (Nat.gcd t.natAbs b.natAbs : Nat)) := (Int.mul_ediv_cancel' d2).symm
  have gp : (0 : Int) < (Nat.gcd t.natAbs b.natAbs : Nat) := by omega
  show shareZ (t / (Nat.gcd t.natAbs b.natAbs : Nat) * v.1) (b / (Nat.gcd t.natAbs b.natAbs : Nat) * v.2) = _
  generalize Nat.gcd t.natAbs b.natAbs = g at *
  rw [← shareZ_mul gp (t := t / (g : Int) * v.1) (b := b / (g : Int) * v.2), ← Int.mul_assoc, ← Int.mul_assoc, ← e1, ← e2]
def topP : List (Shr × Nat) → Int
  | [] => 1
  | z :: l => z.1.1 ^ z.2 * topP l
def botP : List (Shr × Nat) → Int
  | [] => 1
  | z :: l => z.1.2 ^ z.2 * botP l
theorem topP_app : ∀ l l2, topP (l ++ l2) = topP l * topP l2
  | [], l2 => by simp [topP]
  | z :: l, l2 => by rw [List.cons_append, topP, topP, topP_app l l2, Int.mul_assoc]
theorem botP_app : ∀ l l2, botP (l ++ l2) = botP l * botP l2
  | [], l2 => by simp [botP]
  | z :: l, l2 => by rw [List.cons_append, botP, botP, botP_app l l2, Int.mul_assoc]
theorem pow_pos' {a : Int} (h : 0 < a) : ∀ k : Nat, 0 < a ^ k
  | 0 => by simp
  | k + 1 => by rw [Int.pow_succ]; exact Int.mul_pos (pow_pos' h k) h
theorem powG_val {v : Shr} (hv : 0 < v.2) : ∀ (k : Nat) (t b : Int) (q : Shr), 0 < b → powG v k (shareZ t b) = some q → q = shareZ (t * v.1 ^ k) (b * v.2 ^ k)
  | 0, t, b, q, hb, h => by
    have : shareZ t b = q := Option.some.inj h
    rw [← this]; simp
  | k + 1, t, b, q, hb, h => by
    have h' : (if great (timesZ (shareZ t b) v) then none else powG v k (timesZ (shareZ t b) v)) = some q := h
    cases hg : great (timesZ (shareZ t b) v) with
    | true => rw [hg] at h'; cases h'
    | false =>
      rw [hg] at h'
      have h2 : powG v k (timesZ (shareZ t b) v) = some q := h'
      rw [times_share hb] at h2
      have := powG_val hv k (t * v.1) (b * v.2) q (Int.mul_pos hb hv) h2
      rw [this, Int.pow_succ', Int.pow_succ', Int.mul_assoc, Int.mul_assoc]
theorem prodG_val : ∀ (l : List (Shr × Nat)) (t b : Int) (q : Shr), 0 < b → (∀ z ∈ l, 0 < z.1.2) → prodG l (shareZ t b) = some q → q = shareZ (t * topP l) (b * botP l)
  | [], t, b, q, hb, _, h => by
    have : shareZ t b = q := Option.some.inj h
    rw [← this]; simp [topP, botP]
  | z :: l, t, b, q, hb, hl, h => by
    obtain ⟨r, h1, h2⟩ := Option.bind_eq_some_iff.mp (show (powG z.1 z.2 (shareZ t b)).bind (prodG l) = some q from h)
    have hz := hl z List.mem_cons_self
    have e := powG_val hz z.2 t b r hb h1
    rw [e] at h2
    have := prodG_val l _ _ q (Int.mul_pos hb (pow_pos' hz _)) (fun y hy => hl y (List.mem_cons_of_mem _ hy)) h2
    rw [this]
    show _ = shareZ (t * (z.1.1 ^ z.2 * topP l)) (b * (z.1.2 ^ z.2 * botP l))
    rw [Int.mul_assoc, Int.mul_assoc]
theorem one_share : (1, 1) = shareZ 1 1 := by decide
theorem prodG_val1 {l : List (Shr × Nat)} {q : Shr} (hl : ∀ z ∈ l, 0 < z.1.2) (h : prodG l (1, 1) = some q) : q = shareZ (topP l) (botP l) := by
  rw [one_share] at h
  have := prodG_val l 1 1 q (by decide) hl h
  rw [this, Int.one_mul, Int.one_mul]
/-- two products of the same things, another way round -/
theorem prodG_swap {a b : List (Shr × Nat)} {q q2 : Shr} (hl : ∀ z ∈ a ++ b, 0 < z.1.2) (h : prodG (a ++ b) (1, 1) = some q) (h2 : prodG (b ++ a) (1, 1) = some q2) : q2 = q := by
  have e1 := prodG_val1 hl h
  have e2 := prodG_val1 (fun z hz => hl z (by
    rcases List.mem_append.mp hz with h | h
    · exact List.mem_append.mpr (.inr h)
    · exact List.mem_append.mpr (.inl h))) h2
  rw [e1, e2, topP_app, topP_app, botP_app, botP_app, Int.mul_comm (topP b), Int.mul_comm (botP b)]
/-! ### sizes -/
def sz (p : Shr) : Nat := max p.1.natAbs p.2.natAbs
def MVn : Nat := MV.toNat
theorem MVn_eq : (MVn : Int) = MV := by decide +kernel
theorem not_great {p : Shr} (hp : Po p) (h : sz p ≤ MVn) : great p = false := by
  have e := MVn_eq
  unfold sz at h
  have h1 := hp.2
  unfold great
  rw [Bool.or_eq_false_iff, decide_eq_false_iff_not, decide_eq_false_iff_not]
  generalize MV = m at *
  generalize MVn = k at *
  omega
theorem sz_pos {p : Shr} (hp : Po p) : 1 ≤ sz p := by
  have := hp.2
  unfold sz
  omega
theorem sz_share (t b : Int) : sz (shareZ t b) ≤ max t.natAbs b.natAbs := by
  have := shareZ_abs t b
  unfold sz
  omega
theorem sz_times (p v : Shr) : sz (timesZ p v) ≤ sz p * sz v := by
  have h := sz_share (p.1 * v.1) (p.2 * v.2)
  rw [Int.natAbs_mul, Int.natAbs_mul] at h
  have a1 : p.1.natAbs * v.1.natAbs ≤ sz p * sz v := Nat.mul_le_mul (by unfold sz; omega) (by unfold sz; omega)
  have a2 : p.2.natAbs * v.2.natAbs ≤ sz p * sz v := Nat.mul_le_mul (by unfold sz; omega) (by unfold sz; omega)
  unfold timesZ
  omega
theorem sz_plus (p v : Shr) : sz (plusZ p v) ≤ 2 * (sz p * sz v) := by
  have h := sz_share (p.1 * v.2 + v.1 * p.2) (p.2 * v.2)
  have h2 := Int.natAbs_add_le (p.1 * v.2) (v.1 * p.2)
  rw [Int.natAbs_mul, Int.natAbs_mul] at h2
  rw [Int.natAbs_mul] at h
  have a1 : p.1.natAbs * v.2.natAbs ≤ sz p * sz v := Nat.mul_le_mul (by unfold sz; omega) (by unfold sz; omega)
  have a2 : p.2.natAbs * v.2.natAbs ≤ sz p * sz v := Nat.mul_le_mul (by unfold sz; omega) (by unfold sz; omega)
  have a3 : v.1.natAbs * p.2.natAbs ≤ sz v * sz p := Nat.mul_le_mul (by unfold sz; omega) (by unfold sz; omega)
  rw [Nat.mul_comm (sz v)] at a3
  unfold plusZ
  omega
theorem powG_some {v : Shr} (hv : Po v) : ∀ (k : Nat) (p : Shr), Po p → sz p * sz v ^ k ≤ MVn → ∃ q, powG v k p = some q ∧ Po q ∧ sz q ≤ sz p * sz v ^ k
  | 0, p, hp, h => ⟨p, rfl, hp, by simp⟩
  | k + 1, p, hp, h => by
    have s1 := sz_times p v
    have s2 : 1 ≤ sz v ^ k := Nat.pow_pos (sz_pos hv)
    have e : sz p * sz v ^ (k + 1) = sz p * sz v * sz v ^ k := by rw [Nat.pow_succ', Nat.mul_assoc]
    have s3 : sz (timesZ p v) * sz v ^ k ≤ sz p * sz v * sz v ^ k := Nat.mul_le_mul_right _ s1
    have s4 : sz (timesZ p v) ≤ sz (timesZ p v) * sz v ^ k := Nat.le_mul_of_pos_right _ s2
    rw [e] at h ⊢
    have ng := not_great (timesZ_po hp hv) (by omega)
    obtain ⟨q, h1, h2, h3⟩ := powG_some hv k (timesZ p v) (timesZ_po hp hv) (by omega)
    refine ⟨q, ?_, h2, by omega⟩
    show (if great (timesZ p v) then none else powG v k (timesZ p v)) = some q
    rw [ng]
    exact h1
def bw : List (Shr × Nat) → Nat
  | [] => 1
  | z :: l => sz z.1 ^ z.2 * bw l
theorem bw_app : ∀ l l2, bw (l ++ l2) = bw l * bw l2
  | [], l2 => by simp [bw]
  | z :: l, l2 => by rw [List.cons_append, bw, bw, bw_app l l2, Nat.mul_assoc]
theorem bw_pos : ∀ l : List (Shr × Nat), (∀ z ∈ l, Po z.1) → 1 ≤ bw l
  | [], _ => Nat.le_refl _
  | z :: l, h => Nat.mul_pos (Nat.pow_pos (sz_pos (h z List.mem_cons_self))) (bw_pos l fun y hy => h y (List.mem_cons_of_mem _ hy))
theorem prodG_some : ∀ (l : List (Shr × Nat)) (p : Shr), Po p → (∀ z ∈ l, Po z.1) → sz p * bw l ≤ MVn → ∃ q, prodG l p = some q ∧ Po q ∧ sz q ≤ sz p * bw l
  | [], p, hp, _, h => ⟨p, rfl, hp, by simp [bw]⟩
  | z :: l, p, hp, hl, h => by
    have hz := hl z List.mem_cons_self
    have hl' := fun y hy => hl y (List.mem_cons_of_mem z hy)
    have e : sz p * bw (z :: l) = sz p * sz z.1 ^ z.2 * bw l := by rw [bw, Nat.mul_assoc]
    rw [e] at h ⊢
    have b1 := bw_pos l hl'
    have s1 : sz p * sz z.1 ^ z.2 ≤ sz p * sz z.1 ^ z.2 * bw l := Nat.le_mul_of_pos_right _ b1
    obtain ⟨r, h1, h2, h3⟩ := powG_some hz z.2 p hp (by omega)
    have s2 : sz r * bw l ≤ sz p * sz z.1 ^ z.2 * bw l := Nat.mul_le_mul_right _ h3
    obtain ⟨q, g1, g2, g3⟩ := prodG_some l r h2 hl' (by omega)
    refine ⟨q, ?_, g2, by omega⟩
    show (powG z.1 z.2 p).bind (prodG l) = some q
    rw [h1]
    exact g1
end DV
set_option Elab.async false
set_option linter.all false
set_option maxRecDepth 100000
set_option maxHeartbeats 4000000
namespace DV
open PySem
def pw (B e : Nat → Nat) : List Nat → Nat
  | [] => 1
  | y :: l => B y ^ e y * pw B e l
theorem bw_two {f : Nat → Shr} {m : Nat → Int} {B e : Nat → Nat} : ∀ (l : List Nat), (∀ y ∈ l, Po (f y) ∧ sz (f y) ≤ B y ∧ (m y).natAbs ≤ e y) →
    bw (l.map fun y => (f y, (m y).toNat)) * bw (l.map fun y => (f y, (-(m y)).toNat)) ≤ pw B e l
  | [], _ => Nat.le_refl _
  | y :: l, h => by
    obtain ⟨h1, h2, h3⟩ := h y List.mem_cons_self
    have ih := bw_two (f := f) (m := m) (B := B) (e := e) l fun z hz => h z (List.mem_cons_of_mem _ hz)
    have p1 := sz_pos h1
    rw [List.map_cons, List.map_cons, bw, bw, pw]
    dsimp only
    have e1 : sz (f y) ^ (m y).toNat * bw (l.map fun y => (f y, (m y).toNat)) * (sz (f y) ^ (-(m y)).toNat * bw (l.map fun y => (f y, (-(m y)).toNat))) = sz (f y) ^ ((m y).toNat + (-(m y)).toNat) * (bw (l.map fun y => (f y, (m y).toNat)) * bw (l.map fun y => (f y, (-(m y)).toNat))) := by
      rw [Nat.pow_add]
      ac_rfl
    rw [e1, show (m y).toNat + (-(m y)).toNat = (m y).natAbs by omega]
    have s1 : sz (f y) ^ (m y).natAbs ≤ B y ^ (m y).natAbs := Nat.pow_le_pow_left h2 _
    have s2 : B y ^ (m y).natAbs ≤ B y ^ e y := Nat.pow_le_pow_right (by omega) h3
    exact Nat.mul_le_mul (Nat.le_trans s1 s2) ih
theorem insG_po {n : Nat} {f : Nat → Shr} {g : Nat → Int} (h : ∀ y, y < n → Po (f y)) : ∀ z ∈ insG n f g, Po z.1 := insG_all (Q := Po) h
theorem one_po : Po (1, 1) := ⟨by decide, by decide⟩
section
variable {n : Nat} {M : Nat → Nat → Int} {f : Nat → Shr} {B e : Nat → Nat}
theorem bw_io (hsk : ∀ y, M 0 y = - M y 0) (hf : ∀ y, y < n → Po (f y) ∧ sz (f y) ≤ B y) (he : ∀ y, y < n → (M y 0).natAbs ≤ e y) :
    bw (insG n f fun y => M y 0) * bw (insG n f fun y => M 0 y) ≤ pw B e (List.range n) := by
  have := bw_two (f := f) (m := fun y => M y 0) (B := B) (e := e) (List.range n) fun y hy => ⟨(hf y (List.mem_range.mp hy)).1, (hf y (List.mem_range.mp hy)).2, he y (List.mem_range.mp hy)⟩
  have e1 : (insG n f fun y => M 0 y) = (List.range n).map fun y => (f y, (-(M y 0)).toNat) := by
    unfold insG
    apply List.map_congr_left
    intro y _
    dsimp only
    rw [hsk]
  rw [e1]
  exact this
theorem newG_some (h0 : 0 < n) (hsk : ∀ y, M 0 y = - M y 0) (hf : ∀ y, y < n → Po (f y) ∧ sz (f y) ≤ B y) (he : ∀ y, y < n → (M y 0).natAbs ≤ e y) (hW : 2 * pw B e (List.range n) * B 0 ≤ MVn) :
    ∃ v, newG n M 0 f = some v ∧ Po v ∧ sz v ≤ 2 * pw B e (List.range n) * B 0 := by
  have hpo : ∀ y, y < n → Po (f y) := fun y hy => (hf y hy).1
  have hb := bw_io hsk hf he
  have bi := bw_pos _ (insG_po (g := fun y => M y 0) hpo)
  have bo := bw_pos _ (insG_po (g := fun y => M 0 y) hpo)
  have s0 := sz_pos (hf 0 h0).1
  have s0' := (hf 0 h0).2
  have l1 : bw (insG n f fun y => M y 0) ≤ bw (insG n f fun y => M y 0) * bw (insG n f fun y => M 0 y) := Nat.le_mul_of_pos_right _ bo
  have l2 : bw (insG n f fun y => M 0 y) ≤ bw (insG n f fun y => M y 0) * bw (insG n f fun y => M 0 y) := Nat.le_mul_of_pos_left _ bi
  have l3 : 2 * pw B e (List.range n) ≤ 2 * pw B e (List.range n) * B 0 := Nat.le_mul_of_pos_right _ (by omega)
  have o1 : sz (1, 1) = 1 := by decide
  obtain ⟨i, i1, i2, i3⟩ := prodG_some (insG n f fun y => M y 0) (1, 1) one_po (insG_po hpo) (by rw [o1]; omega)
  obtain ⟨o, p1, p2, p3⟩ := prodG_some (insG n f fun y => M 0 y) (1, 1) one_po (insG_po hpo) (by rw [o1]; omega)
  rw [o1, Nat.one_mul] at i3 p3
  have q1 := sz_plus i o
  have q2 : sz i * sz o ≤ pw B e (List.range n) := Nat.le_trans (Nat.mul_le_mul i3 p3) hb
  have q3 := sz_times (plusZ i o) ((f 0).2, (f 0).1)
  have q4 : sz ((f 0).2, (f 0).1) = sz (f 0) := by unfold sz; exact Nat.max_comm _ _
  rw [q4] at q3
  have q5 : sz (plusZ i o) * sz (f 0) ≤ 2 * pw B e (List.range n) * B 0 := Nat.mul_le_mul (by omega) s0'
  have vp := timesZ_po (plusZ_po i2 p2) (show Po ((f 0).2, (f 0).1) from ⟨(hf 0 h0).1.2, (hf 0 h0).1.1⟩)
  refine ⟨timesZ (plusZ i o) ((f 0).2, (f 0).1), ?_, vp, by omega⟩
  unfold newG
  rw [i1, Option.bind_some, p1, Option.bind_some, not_great vp (by omega)]
  rfl
end
def c0 : Nat := 2 * 7 ^ 9
def c1 : Nat := 2 * c0 ^ 2 * 7 ^ 7
def c2 : Nat := 2 * c0 ^ 2 * c1 ^ 2 * 7 ^ 5
def cb (n i : Nat) : Nat := if i < n then 7 else if i = n then c0 else if i = n + 1 then c1 else c2
def eB (y : Nat) : Nat := if y = 0 then 0 else 2
def okB (n j : Nat) : Bool := decide (2 * pw (fun y => cb n (j + y)) eB (List.range n) * cb n j ≤ cb n (n + j)) && decide (cb n (n + j) ≤ MVn)
def okC (n j : Nat) : Bool := decide (pw (fun y => cb n (j + y)) eB (List.range n) ≤ MVn)
theorem okB_all : [1, 2, 3, 4, 5].all (fun n => [0, 1, 2].all fun j => okB n j) = true := by decide +kernel
theorem okC_all : [1, 2, 3, 4, 5].all (fun n => [0, 1, 2, 3].all fun j => okC n j) = true := by decide +kernel
theorem okB_at {n j : Nat} (h1 : 1 ≤ n) (h5 : n ≤ 5) (hj : j ≤ 2) : 2 * pw (fun y => cb n (j + y)) eB (List.range n) * cb n j ≤ cb n (n + j) ∧ cb n (n + j) ≤ MVn := by
  have hn : n = 1 ∨ n = 2 ∨ n = 3 ∨ n = 4 ∨ n = 5 := by omega
  have hj' : j = 0 ∨ j = 1 ∨ j = 2 := by omega
  have a := List.all_eq_true.mp (List.all_eq_true.mp okB_all n (by simp; omega)) j (by simp; omega)
  unfold okB at a
  simpa using a
theorem okC_at {n j : Nat} (h1 : 1 ≤ n) (h5 : n ≤ 5) (hj : j ≤ 3) : pw (fun y => cb n (j + y)) eB (List.range n) ≤ MVn := by
  have a := List.all_eq_true.mp (List.all_eq_true.mp okC_all n (by simp; omega)) j (by simp; omega)
  unfold okC at a
  simpa using a
/-! ### what a row says of its numbers -/
theorem newG_ext {n x : Nat} {M M' : Nat → Nat → Int} {f f' : Nat → Shr} (hx : x < n) (hM : ∀ y, y < n → M y x = M' y x ∧ M x y = M' x y) (hf : ∀ y, y < n → f y = f' y) : newG n M x f = newG n M' x f' := by
  have e : ∀ g g' : Nat → Int, (∀ y, y < n → g y = g' y) → insG n f g = insG n f' g' := fun g g' h => by
    unfold insG
    apply List.map_congr_left
    intro y hy
    rw [hf y (List.mem_range.mp hy), h y (List.mem_range.mp hy)]
  unfold newG
  rw [e (fun y => M y x) (fun y => M' y x) fun y hy => (hM y hy).1, e (fun y => M x y) (fun y => M' x y) fun y hy => (hM y hy).2, hf x hx]
theorem seqG_spec {n : Nat} {M : Nat → Nat → Int} (h0 : 1 ≤ n) : ∀ (k at_ : Nat) (g0 g : Nat → Shr), seqG n M k at_ g0 = some g → (∀ i, i < n + at_ → g i = g0 i) ∧ ∀ j, at_ ≤ j → j < at_ + k → newG n M 0 (fun y => g (j + y)) = some (g (n + j))
  | 0, at_, g0, g, h => by
    cases h
    exact ⟨fun _ _ => rfl, fun j h1 h2 => by omega⟩
  | k + 1, at_, g0, g, h => by
    obtain ⟨v, h1, h2⟩ := Option.bind_eq_some_iff.mp (show (newG n M 0 fun y => g0 (at_ + y)).bind (fun v => seqG n M k (at_ + 1) (setF g0 (n + at_) v)) = some g from h)
    obtain ⟨a, b⟩ := seqG_spec h0 k (at_ + 1) (setF g0 (n + at_) v) g h2
    have a' : ∀ i, i < n + at_ → g i = g0 i := fun i hi => by
      rw [a i (by omega)]
      unfold setF
      rw [if_neg (by omega)]
    refine ⟨a', fun j h3 h4 => ?_⟩
    by_cases c : j = at_
    · subst c
      have e1 : g (n + j) = v := by
        rw [a (n + j) (by omega)]
        unfold setF
        rw [if_pos rfl]
      rw [e1, ← h1]
      exact newG_ext (by omega) (fun y _ => ⟨rfl, rfl⟩) fun y hy => a' (j + y) (by omega)
    · exact b j (by omega) (by omega)
section
variable {n : Nat} {M : Nat → Nat → Int} {f : Nat → Shr}
theorem row_sizes (h1 : 1 ≤ n) (h5 : n ≤ 5) (hsk : ∀ y, M 0 y = - M y 0) (he : ∀ y, y < n → (M y 0).natAbs ≤ eB y) {g : Nat → Shr} (hg : ∀ i, i < n → Po (g i) ∧ sz (g i) ≤ 7) {k : Nat} (hs : ∀ j, j < k → newG n M 0 (fun y => g (j + y)) = some (g (n + j))) :
    ∀ j, j ≤ k → j ≤ 3 → ∀ i, i < n + j → Po (g i) ∧ sz (g i) ≤ cb n i
  | 0, _, _, i, hi => by
    have := hg i hi
    unfold cb
    rw [if_pos (by omega)]
    exact this
  | j + 1, hk, h3, i, hi => by
    have ih := row_sizes h1 h5 hsk he hg hs j (by omega) (by omega)
    by_cases c : i < n + j
    · exact ih i c
    · have e : i = n + j := by omega
      subst e
      obtain ⟨b1, b2⟩ := okB_at h1 h5 (show j ≤ 2 by omega)
      obtain ⟨v, v1, v2, v3⟩ := newG_some (f := fun y => g (j + y)) (B := fun y => cb n (j + y)) (e := eB) (by omega) hsk (fun y hy => ih (j + y) (by omega)) he (by show 2 * pw (fun y => cb n (j + y)) eB (List.range n) * cb n (j + 0) ≤ _; rw [Nat.add_zero]; omega)
      rw [hs j (by omega)] at v1
      cases v1
      refine ⟨v2, ?_⟩
      have v4 : sz (g (n + j)) ≤ 2 * pw (fun y => cb n (j + y)) eB (List.range n) * cb n (j + 0) := v3
      rw [Nat.add_zero] at v4
      omega
/-- the first three steps are never too great -/
theorem seq_some (h1 : 1 ≤ n) (h5 : n ≤ 5) (hsk : ∀ y, M 0 y = - M y 0) (he : ∀ y, y < n → (M y 0).natAbs ≤ eB y) : ∀ (k at_ : Nat) (g : Nat → Shr), at_ + k ≤ 3 → (∀ i, i < n + at_ → Po (g i) ∧ sz (g i) ≤ cb n i) → ∃ g', seqG n M k at_ g = some g'
  | 0, at_, g, _, _ => ⟨g, rfl⟩
  | k + 1, at_, g, h3, hg => by
    obtain ⟨b1, b2⟩ := okB_at h1 h5 (show at_ ≤ 2 by omega)
    obtain ⟨v, v1, v2, v3⟩ := newG_some (f := fun y => g (at_ + y)) (B := fun y => cb n (at_ + y)) (e := eB) (by omega) hsk (fun y hy => hg (at_ + y) (by omega)) he (by show 2 * pw (fun y => cb n (at_ + y)) eB (List.range n) * cb n (at_ + 0) ≤ _; rw [Nat.add_zero]; omega)
    have v4 : sz v ≤ 2 * pw (fun y => cb n (at_ + y)) eB (List.range n) * cb n (at_ + 0) := v3
    rw [Nat.add_zero] at v4
    obtain ⟨g', e⟩ := seq_some h1 h5 hsk he k (at_ + 1) (setF g (n + at_) v) (by omega) (fun i hi => by
      unfold setF
      split
      · rename_i c
        subst c
        exact ⟨v2, by omega⟩
      · exact hg i (by omega))
    refine ⟨g', ?_⟩
    show (newG n M 0 fun y => g (at_ + y)).bind (fun v => seqG n M k (at_ + 1) (setF g (n + at_) v)) = some g'
    rw [v1]
    exact e
end
end DV
set_option Elab.async false
set_option linter.all false
set_option maxRecDepth 100000
set_option maxHeartbeats 4000000
namespace DV
open PySem
def sg (n j c : Nat) : Nat := if c < j then c + n - j else c - j
def webT (n : Nat) (M : Nat → Nat → Int) (j : Nat) : Nat → Nat → Int := fun a c => M (sg n j a) (sg n j c)
theorem webT_0 {n : Nat} {M : Nat → Nat → Int} : webT n M 0 = M := by
  funext a c
  unfold webT sg
  simp
theorem ordN_eq {n y : Nat} (hy : y < n) : ordN n y = if y = 0 then n - 1 else y - 1 := by
  unfold ordN
  by_cases c : y = 0
  · subst c
    rw [if_pos rfl, Nat.zero_add, Nat.mod_eq_of_lt (by omega)]
  · rw [if_neg c, show y + (n - 1) = (y - 1) + n by omega, Nat.add_mod_right, Nat.mod_eq_of_lt (by omega)]
theorem steady_turn {n : Nat} {M : Nat → Nat → Int} (h : stB n M = true) {a c : Nat} (ha : a < n) (hc : c < n) : turnM M 0 a c = M (ordN n a) (ordN n c) := by
  have := wEq_iff.mp h (ordN n a) (ordN n c) (Nat.mod_lt _ (by omega)) (Nat.mod_lt _ (by omega))
  rw [← this]
  show _ = turnM M 0 (invN n (ordN n a)) (invN n (ordN n c))
  rw [(ord_inv ha).2, (ord_inv hc).2]
theorem sg_lt {n j c : Nat} (hj : j ≤ n) (hc : c < n) : sg n j c < n := by
  unfold sg
  split <;> omega
theorem sg_ord {n j c : Nat} (hj : j < n) (hc : c < n) : ordN n (sg n j c) = sg n (j + 1) c := by
  rw [ordN_eq (sg_lt (by omega) hc)]
  unfold sg
  by_cases h1 : c < j
  · rw [if_pos h1, if_pos (show c < j + 1 by omega), if_neg (by omega)]
    omega
  · rw [if_neg h1]
    by_cases h2 : c = j
    · subst h2
      rw [if_pos (by omega), if_pos (by omega)]
      omega
    · rw [if_neg (by omega), if_neg (by omega)]
      omega
theorem turn_webT {n : Nat} {M : Nat → Nat → Int} (h : stB n M = true) {j : Nat} (hj : j < n) {a c : Nat} (ha : a < n) (hc : c < n) : turnM (webT n M j) j a c = webT n M (j + 1) a c := by
  have sj : sg n j j = 0 := by
    unfold sg
    rw [if_neg (by omega)]
    omega
  have key : ∀ a, a < n → (a = j ↔ sg n j a = 0) := fun a ha => by
    unfold sg
    split <;> omega
  have e1 : turnM (webT n M j) j a c = turnM M 0 (sg n j a) (sg n j c) := by
    unfold turnM thr webT
    rw [sj]
    simp only [key a ha, key c hc]
  rw [e1, steady_turn h (sg_lt (by omega) ha) (sg_lt (by omega) hc), sg_ord hj ha, sg_ord hj hc]
  rfl
def valsT (n : Nat) (T : Nat → Nat → Nat → Int) : Nat → Nat → (Nat → Shr) → Option (Nat → Shr)
  | 0, _, f => some f
  | k + 1, j, f => (newG n (T j) j f).bind fun v => valsT n T k (j + 1) (setF f j v)
structure Webs (n : Nat) (T : Nat → Nat → Nat → Int) (b : Int) : Prop where
  hb : b ≤ 900
  sk : ∀ j, Skew b (T j)
  tn : ∀ j, j < n → ∀ a c, a < n → c < n → turnM (T j) j a c = T (j + 1) a c
section
variable {n : Nat} {T : Nat → Nat → Nat → Int} {f : Nat → Shr} {told sh : Val} {b : Int}
theorem pvals_goT (W : Webs n T b) (hn : n ≤ 100) : ∀ (k j : Nat) (f f' : Nat → Shr) (x0 i0 o0 : Option Val), j + k ≤ n → (∀ y, y < n → PS (f y)) → valsT n T k j f = some f' →
    ∃ x i o, fgo (.nm 5) bodyV ((List.range' j k).map fun k => .int (k : Nat)) (bodySl n (T j) told sh x0 i0 o0) [.lst (valsL n f)] = .nx (bodySl n (T (j + k)) told sh x i o) [.lst (valsL n f')] := by
  intro k
  induction k with
  | zero =>
    intro j f f' x0 i0 o0 _ _ h
    cases h
    exact ⟨x0, i0, o0, rfl⟩
  | succ k ih =>
    intro j f f' x0 i0 o0 hk hf h
    obtain ⟨v, h1, h2⟩ := Option.bind_eq_some_iff.mp (show (newG n (T j) j f).bind (fun v => valsT n T k (j + 1) (setF f j v)) = some f' from h)
    have hj : j < n := by omega
    have st := bodyV_ok (told := told) (sh := sh) (M := T j) (W.sk j) (by have := W.hb; omega) hn hj (fun a c ha hc => by
      rw [W.tn j hj a c ha hc]
      have := W.sk (j + 1) a c
      have := W.hb
      omega) hf (i0 := i0) (o0 := o0)
    rw [h1] at st
    obtain ⟨i, o, e⟩ := st
    have ew : webD n (turnM (T j) j) = webD n (T (j + 1)) := webD_ext fun a c ha hc => W.tn j hj a c ha hc
    unfold bodySl at e
    rw [ew] at e
    obtain ⟨x2, i2, o2, e2⟩ := ih (j + 1) (setF f j v) f' (some (.d (.int j))) i o (by omega) (setF_ps hf (newG_ps hj hf h1)) h2
    refine ⟨x2, i2, o2, ?_⟩
    rw [List.range'_succ, List.map_cons, show j + (k + 1) = j + 1 + k by omega]
    exact fgo_cons e e2
theorem pvals_okT (W : Webs n T b) {m : Nat} {shs : PyData} (hsh : shs = .list (shL n f) ∨ shs = .tuple (shL n f)) (hn : n ≤ 100) (hm : m ≤ n) (hf : ∀ y, y < n → PS (f y)) {f' : Nat → Shr} (h : valsT n T m 0 f = some f') :
    pvalsF [webD n (T 0), rowT m, shs] = .ok (.list (shL n f')) := by
  obtain ⟨x, i, o, e⟩ := pvals_goT (told := .d (rowT m)) (sh := .d shs) W hn m 0 f f' none none none (by omega) hf h
  have e0 : lstF (var 2) (slots 9 [.d (webD n (T 0)), .d (rowT m), .d shs]) [] = .ok ((shL n f).map .d) [] := by
    rcases hsh with rfl | rfl
    · exact z_lstL (z_var rfl)
    · exact z_lst1 (z_var rfl)
  rw [← vals_eq] at e0
  have e1 : parS [3, 4] (consL (ownE (lstF (var 2))) (consL (blt lenD (consL (var 0) nilL)) nilL)) (slots 9 [.d (webD n (T 0)), .d (rowT m), .d shs]) [] = .nx (bodySl n (T 0) (.d (rowT m)) (.d shs) none none none) [.lst (valsL n f)] :=
    z_par (z_cons (z_own e0) (z_cons (len_web rfl) z_nil)) rfl (by decide)
  have er : seqI (var 1) (bodySl n (T 0) (.d (rowT m)) (.d shs) none none none) [.lst (valsL n f)] = .ok ((List.range' 0 m).map fun k => .int (k : Nat)) [.lst (valsL n f)] := by
    rw [← List.range_eq_range']
    exact z_seqT (z_var rfl)
  exact z_runP rfl (z_seq e1 (z_seq (z_for er e) (z_rtL (z_var rfl) frz_vals))) rfl
theorem values_okT (W : Webs n T b) {m : Nat} (h0 : 1 ≤ n) (hn : n ≤ 6) (hm : m ≤ n) (hf : ∀ k, k < n → StartOk (f k)) {f' : Nat → Shr} (h : valsT n T m 0 f = some f') :
    valuesF [webD n (T 0), rowT m, .tuple (shL n f)] = .ok (.tuple (shL n f')) := by
  have pv := pvals_okT W (m := m) (shs := .tuple (shL n f)) (.inr rfl) (by omega) hm (fun y hy => startOk_ps (hf y hy)) h
  have hb := W.hb
  exact z_runP rfl (z_seq (z_ex (z_callP (ds := [webD n (T 0), rowT m]) (z_consD (z_var rfl) (z_consD (z_var rfl) z_nilD)) (needRow_ok h0 hn (W.sk 0) (by omega) hm))) (z_seq (z_ex (z_callP (ds := [.int n, .tuple (shL n f)]) (z_consD (len_web rfl) (z_consD (z_var rfl) z_nilD)) (needSh_ok (by omega) hf))) (z_rt (S1 := []) (z_blt (ds := [.list (shL n f')]) (z_consD (z_callP (ds := [webD n (T 0), rowT m, .tuple (shL n f)]) (z_consD (z_var rfl) (z_consD (z_var rfl) (z_consD (z_var rfl) z_nilD))) pv) z_nilD) rfl)))) rfl
end
/-- the numbers at the nodes behind j turns -/
def atF (n : Nat) (g : Nat → Shr) (j : Nat) : Nat → Shr := fun c => if c < j then g (n + c) else g c
theorem atF_set {n j : Nat} {g : Nat → Shr} : setF (atF n g j) j (g (n + j)) = atF n g (j + 1) := by
  funext c
  unfold setF atF
  by_cases h : c = j
  · subst h
    rw [if_pos rfl, if_pos (by omega)]
  · rw [if_neg h]
    by_cases h2 : c < j
    · rw [if_pos h2, if_pos (by omega)]
    · rw [if_neg h2, if_neg (by omega)]
theorem insG_rot {n j : Nat} {g : Nat → Shr} {m : Nat → Int} (hj : j < n) : (insG n (atF n g j) fun y => m (sg n j y)) = (insG n (fun y => g (j + y)) m).drop (n - j) ++ (insG n (fun y => g (j + y)) m).take (n - j) := by
  unfold insG
  apply List.ext_getElem
  · simp
  · intro y h1 h2
    simp only [List.length_map, List.length_range] at h1
    simp only [List.getElem_map, List.getElem_range, List.getElem_append, List.length_drop, List.length_map, List.length_range, List.getElem_drop, List.getElem_take]
    unfold atF sg
    by_cases c : y < j
    · rw [if_pos c, if_pos c, dif_pos (by omega), show j + (n - j + y) = n + y by omega, show n - j + y = y + n - j by omega]
    · rw [if_neg c, if_neg c, dif_neg (by omega), show j + (y - (n - (n - j))) = y by omega, show y - (n - (n - j)) = y - j by omega]
theorem rot_prod {n j : Nat} {g : Nat → Shr} {m : Nat → Int} {q : Shr} (hj : j < n) (hp : ∀ y, y < n → Po (g (j + y))) (h : prodG (insG n (fun y => g (j + y)) m) (1, 1) = some q) (hs : bw (insG n (fun y => g (j + y)) m) ≤ MVn ∨ (j + 1 = n ∧ m 0 = 0)) :
    prodG (insG n (atF n g j) fun y => m (sg n j y)) (1, 1) = some q := by
  rw [insG_rot hj]
  have po := insG_po (n := n) (g := m) hp
  generalize hL : insG n (fun y => g (j + y)) m = L at *
  have ed : L.take (n - j) ++ L.drop (n - j) = L := List.take_append_drop _ _
  rcases hs with hs | ⟨hs1, hs2⟩
  · have eb : bw (L.drop (n - j) ++ L.take (n - j)) = bw L := by
      rw [bw_app, Nat.mul_comm, ← bw_app, ed]
    have po2 : ∀ z ∈ L.drop (n - j) ++ L.take (n - j), Po z.1 := fun z hz => by
      rcases List.mem_append.mp hz with h | h
      · exact po z (List.mem_of_mem_drop h)
      · exact po z (List.mem_of_mem_take h)
    have o1 : sz (1, 1) = 1 := by decide
    obtain ⟨q2, e2, _, _⟩ := prodG_some (L.drop (n - j) ++ L.take (n - j)) (1, 1) one_po po2 (by rw [o1, eb, Nat.one_mul]; exact hs)
    rw [e2]
    congr 1
    rw [← ed] at h
    exact prodG_swap (fun z hz => (po z (by rw [ed] at hz; exact hz)).2) h e2
  · have e1 : n - j = 1 := by omega
    rw [e1] at ed ⊢
    have e3 : L.take 1 = [(g j, 0)] := by
      rw [← hL]
      unfold insG
      rw [show n = (n - 1) + 1 by omega, List.range_succ_eq_map]
      simp [hs2]
    rw [← ed, e3] at h
    rw [e3, prodG_append]
    have h' : prodG (L.drop 1) (1, 1) = some q := h
    rw [h']
    rfl
theorem newG_rot {n j : Nat} {M : Nat → Nat → Int} {g : Nat → Shr} {v : Shr} (hj : j < n) (hsk : ∀ y, M 0 y = - M y 0) (hp : ∀ y, y < n → Po (g (j + y))) (h : newG n M 0 (fun y => g (j + y)) = some v) (hs : (bw (insG n (fun y => g (j + y)) fun y => M y 0) ≤ MVn ∧ bw (insG n (fun y => g (j + y)) fun y => M 0 y) ≤ MVn) ∨ j + 1 = n) :
    newG n (webT n M j) j (atF n g j) = some v := by
  have sj : sg n j j = 0 := by
    unfold sg
    rw [if_neg (by omega)]
    omega
  have m0 : M 0 0 = 0 := by have := hsk 0; omega
  unfold newG at h
  obtain ⟨i, h1, h2⟩ := Option.bind_eq_some_iff.mp h
  obtain ⟨o, h3, h4⟩ := Option.bind_eq_some_iff.mp h2
  have r1 := rot_prod (m := fun y => M y 0) hj hp h1 (by
    rcases hs with hs | hs
    · exact .inl hs.1
    · exact .inr ⟨hs, m0⟩)
  have r2 := rot_prod (m := fun y => M 0 y) hj hp h3 (by
    rcases hs with hs | hs
    · exact .inl hs.2
    · exact .inr ⟨hs, m0⟩)
  have e1 : (fun y => webT n M j y j) = fun y => M (sg n j y) 0 := by
    funext y
    unfold webT
    rw [sj]
  have e2 : (fun y => webT n M j j y) = fun y => M 0 (sg n j y) := by
    funext y
    unfold webT
    rw [sj]
  have e3 : atF n g j j = g (j + 0) := by
    unfold atF
    rw [if_neg (by omega)]
    rfl
  unfold newG
  rw [e1, e2, r1, Option.bind_some, r2, Option.bind_some, e3]
  exact h4
end DV
set_option Elab.async false
set_option linter.all false
set_option maxRecDepth 100000
set_option maxHeartbeats 4000000
namespace DV
open PySem
theorem ps_po {p : Shr} (h : PS p) : Po p := ⟨h.2, h.1.2.1⟩
theorem shL_ext {n : Nat} {f f' : Nat → Shr} (h : ∀ k, k < n → f k = f' k) : shL n f = shL n f' := by
  unfold shL
  apply List.map_congr_left
  intro k hk
  rw [h k (List.mem_range.mp hk)]
section
variable {n : Nat} {M : Nat → Nat → Int} {b : Int}
theorem startS_sz {p : Shr} (h : StartS p) : Po p ∧ sz p ≤ 7 := by
  obtain ⟨⟨h1, h2, h3, h4, h5⟩, h6, h7⟩ := h
  refine ⟨⟨by omega, by omega⟩, ?_⟩
  unfold sz
  omega
theorem steady_webs (hs : Skew b M) (hb : b ≤ 900) (h : stB n M = true) : Webs n (webT n M) b where
  hb := hb
  sk j i k := ⟨(hs _ _).1, (hs _ _).2⟩
  tn j hj a c ha hc := turn_webT h hj ha hc
theorem steady_vals (h1 : 1 ≤ n) (h5 : n ≤ 5) (hsk : ∀ y, M 0 y = - M y 0) (he : ∀ y, y < n → (M y 0).natAbs ≤ eB y) {f g : Nat → Shr} (hf : ∀ i, i < n → StartS (f i)) {m : Nat} (hm : m ≤ n) (h : seqG n M m 0 f = some g) :
    ∀ k j, j + k = m → valsT n (webT n M) k j (atF n g j) = some (atF n g m) := by
  obtain ⟨sp1, sp2⟩ := seqG_spec h1 m 0 f g h
  have hps := seqG_ps h1 m 0 f g (fun j hj => startOk_ps (hf j (by omega)).1) h
  have hst : ∀ j, j < m → newG n M 0 (fun y => g (j + y)) = some (g (n + j)) := fun j hj => sp2 j (by omega) (by omega)
  have sizes := row_sizes h1 h5 hsk he (g := g) (fun i hi => by rw [sp1 i (by omega)]; exact startS_sz (hf i hi)) hst
  intro k
  induction k with
  | zero =>
    intro j hj
    have : j = m := by omega
    subst this
    rfl
  | succ k ih =>
    intro j hj
    have hjn : j < n := by omega
    have rot : newG n (webT n M j) j (atF n g j) = some (g (n + j)) := by
      refine newG_rot hjn hsk (fun y hy => ps_po (hps (j + y) (by omega))) (hst j (by omega)) ?_
      by_cases c : j + 1 = n
      · exact .inr c
      · left
        have sj := sizes j (by omega) (by omega)
        have io := bw_io (n := n) (f := fun y => g (j + y)) (B := fun y => cb n (j + y)) (e := eB) hsk (fun y hy => sj (j + y) (by omega)) he
        have oc := okC_at h1 h5 (show j ≤ 3 by omega)
        have po : ∀ y, y < n → Po (g (j + y)) := fun y hy => (sj (j + y) (by omega)).1
        have bi := bw_pos _ (insG_po (n := n) (f := fun y => g (j + y)) (g := fun y => M y 0) po)
        have bo := bw_pos _ (insG_po (n := n) (f := fun y => g (j + y)) (g := fun y => M 0 y) po)
        have l1 := Nat.le_mul_of_pos_right (bw (insG n (fun y => g (j + y)) fun y => M y 0)) bo
        have l2 := Nat.le_mul_of_pos_left (bw (insG n (fun y => g (j + y)) fun y => M 0 y)) bi
        exact ⟨by omega, by omega⟩
    show (newG n (webT n M j) j (atF n g j)).bind (fun v => valsT n (webT n M) k (j + 1) (setF (atF n g j) j v)) = _
    rw [rot, Option.bind_some, atF_set]
    exact ih (j + 1) (by omega)
theorem steady_values (h1 : 1 ≤ n) (h5 : n ≤ 5) (hs : Skew b M) (hb : b ≤ 900) (hst : stB n M = true) (he : ∀ y, y < n → (M y 0).natAbs ≤ eB y) {f g : Nat → Shr} (hf : ∀ i, i < n → StartS (f i)) {m : Nat} (hm : m ≤ n) (h : seqG n M m 0 f = some g) :
    valuesF [webD n M, rowT m, .tuple (shL n f)] = .ok (.tuple (shL n (atF n g m))) := by
  have W := steady_webs hs hb hst
  obtain ⟨sp1, sp2⟩ := seqG_spec h1 m 0 f g h
  have ef : ∀ k, k < n → f k = atF n g 0 k := fun k hk => by
    rw [← sp1 k (by omega)]
    unfold atF
    rw [if_neg (by omega)]
  have v := values_okT W (m := m) (f := atF n g 0) h1 (by omega) hm (fun k hk => by rw [← ef k hk]; exact (hf k hk).1) (steady_vals h1 h5 (fun y => (hs y 0).1) he hf hm h m 0 (by omega))
  rw [webT_0, ← shL_ext ef] at v
  exact v
end
/-! ### whole numbers -/
abbrev wh (k : Nat) : Shr := ((k : Int), 1)
theorem share_one (t : Int) : shareZ t 1 = (t, 1) := by
  unfold shareZ
  simp
theorem whole_top {f : Nat → Shr} {w : Nat → Nat} {e : Nat → Nat} : ∀ l : List Nat, (∀ y ∈ l, f y = wh (w y)) → topP (l.map fun y => (f y, e y)) = (pw w e l : Nat) ∧ botP (l.map fun y => (f y, e y)) = 1
  | [], _ => ⟨rfl, rfl⟩
  | y :: l, h => by
    obtain ⟨h1, h2⟩ := whole_top (f := f) (w := w) (e := e) l fun z hz => h z (List.mem_cons_of_mem _ hz)
    rw [List.map_cons, topP, botP, h1, h2, pw, h y List.mem_cons_self]
    dsimp only
    rw [Int.natCast_mul, Int.natCast_pow, Int.one_pow]
    simp
theorem whole_prod {n : Nat} {f : Nat → Shr} {w : Nat → Nat} {m : Nat → Int} {q : Shr} (hf : ∀ y, y < n → f y = wh (w y)) (h : prodG (insG n f m) (1, 1) = some q) : q = wh (pw w (fun y => (m y).toNat) (List.range n)) := by
  have hp : ∀ z ∈ insG n f m, 0 < z.1.2 := insG_all (Q := fun p => 0 < p.2) fun y hy => by rw [hf y hy]; show (0 : Int) < 1; decide
  have e := prodG_val1 hp h
  obtain ⟨t1, t2⟩ := whole_top (f := f) (w := w) (e := fun y => (m y).toNat) (List.range n) fun y hy => hf y (List.mem_range.mp hy)
  unfold insG at e
  rw [t1, t2, share_one] at e
  exact e
theorem whole_new {n : Nat} {M : Nat → Nat → Int} {f : Nat → Shr} {w : Nat → Nat} {v : Shr} (h0 : 0 < n) (hf : ∀ y, y < n → f y = wh (w y)) (hw : 0 < w 0) (h : newG n M 0 f = some v)
    (hd : (pw w (fun y => (M y 0).toNat) (List.range n) + pw w (fun y => (M 0 y).toNat) (List.range n)) % w 0 = 0) :
    v = wh ((pw w (fun y => (M y 0).toNat) (List.range n) + pw w (fun y => (M 0 y).toNat) (List.range n)) / w 0) ∧ great v = false := by
  unfold newG at h
  obtain ⟨i, h1, h2⟩ := Option.bind_eq_some_iff.mp h
  obtain ⟨o, h3, h4⟩ := Option.bind_eq_some_iff.mp h2
  have ei := whole_prod hf h1
  have eo := whole_prod hf h3
  have ep : plusZ i o = wh (pw w (fun y => (M y 0).toNat) (List.range n) + pw w (fun y => (M 0 y).toNat) (List.range n)) := by
    rw [ei, eo]
    unfold plusZ
    simp only [Int.mul_one]
    rw [share_one]
    rfl
  have ev : timesZ (plusZ i o) ((f 0).2, (f 0).1) = wh ((pw w (fun y => (M y 0).toNat) (List.range n) + pw w (fun y => (M 0 y).toNat) (List.range n)) / w 0) := by
    rw [ep, hf 0 h0]
    generalize hN : pw w (fun y => (M y 0).toNat) (List.range n) + pw w (fun y => (M 0 y).toNat) (List.range n) = N at *
    have e1 : w 0 * (N / w 0) = N := by
      have := Nat.div_add_mod N (w 0)
      rw [hd] at this
      omega
    unfold timesZ
    dsimp only
    rw [Int.mul_one, Int.one_mul]
    conv => lhs; rw [← e1]
    have s := shareZ_mul (k := (w 0 : Nat)) (t := (N / w 0 : Nat)) (b := 1) (by omega)
    rw [Int.mul_one, share_one] at s
    rw [Int.natCast_mul]
    exact s
  split at h4
  · cases h4
  · rename_i c
    have := Option.some.inj h4
    rw [← this]
    exact ⟨ev, by simpa using c⟩
def chkN (n : Nat) (a b : Nat → Nat) : Nat → Nat → (Nat → Nat) → Bool
  | 0, _, _ => true
  | k + 1, at_, w => match (pw (fun y => w (at_ + y)) a (List.range n) + pw (fun y => w (at_ + y)) b (List.range n)) % w at_ with
    | 0 => match (pw (fun y => w (at_ + y)) a (List.range n) + pw (fun y => w (at_ + y)) b (List.range n)) / w at_ with
      | 0 => false
      | m + 1 => decide (MVn ≤ m) || chkN n a b k (at_ + 1) fun i => if i = n + at_ then m + 1 else w i
    | _ + 1 => false
theorem pw_ext {B e e' : Nat → Nat} : ∀ l : List Nat, (∀ y ∈ l, e y = e' y) → pw B e l = pw B e' l
  | [], _ => rfl
  | y :: l, h => by rw [pw, pw, h y List.mem_cons_self, pw_ext l fun z hz => h z (List.mem_cons_of_mem _ hz)]
theorem chk_ok {n : Nat} {M : Nat → Nat → Int} {a b : Nat → Nat} (h0 : 0 < n) (ha : ∀ y, y < n → a y = (M y 0).toNat) (hb : ∀ y, y < n → b y = (M 0 y).toNat) : ∀ (k at_ : Nat) (w : Nat → Nat) (k' : Nat) (g g' : Nat → Shr), chkN n a b k at_ w = true → (∀ i, i < n + at_ → g i = wh (w i) ∧ 0 < w i) → k' ≤ k → seqG n M k' at_ g = some g' → ∀ i, i < n + at_ + k' → (g' i).2 = 1
  | _, at_, w, 0, g, g', _, hg, _, h, i, hi => by
    cases h
    rw [(hg i (by omega)).1]
  | 0, _, _, k' + 1, _, _, _, _, hk, _, _, _ => by omega
  | k + 1, at_, w, k' + 1, g, g', hc, hg, hk, h, i, hi => by
    obtain ⟨v, h1, h2⟩ := Option.bind_eq_some_iff.mp (show (newG n M 0 fun y => g (at_ + y)).bind (fun v => seqG n M k' (at_ + 1) (setF g (n + at_) v)) = some g' from h)
    rw [chkN] at hc
    have ea : pw (fun y => w (at_ + y)) a (List.range n) = pw (fun y => w (at_ + y)) (fun y => (M y 0).toNat) (List.range n) := pw_ext _ fun y hy => ha y (List.mem_range.mp hy)
    have eb : pw (fun y => w (at_ + y)) b (List.range n) = pw (fun y => w (at_ + y)) (fun y => (M 0 y).toNat) (List.range n) := pw_ext _ fun y hy => hb y (List.mem_range.mp hy)
    have wn := whole_new (w := fun y => w (at_ + y)) h0 (fun y hy => (hg (at_ + y) (by omega)).1) (hg (at_ + 0) (by omega)).2 h1
    rw [← ea, ← eb] at wn
    rw [Nat.add_zero] at wn
    generalize hN : pw (fun y => w (at_ + y)) a (List.range n) + pw (fun y => w (at_ + y)) b (List.range n) = N at *
    split at hc
    · rename_i e0
      obtain ⟨v1, v2⟩ := wn e0
      split at hc
      · cases hc
      · rename_i m e1
        rw [e1] at v1
        rcases Bool.or_eq_true_iff.mp hc with c | c
        · have c' := of_decide_eq_true c
          exfalso
          have e := MVn_eq
          unfold great at v2
          rw [Bool.or_eq_false_iff, decide_eq_false_iff_not] at v2
          rw [v1] at v2
          have := v2.1
          dsimp only at this
          rw [Int.natAbs_natCast] at this
          generalize MV = z at *
          generalize MVn = y at *
          omega
        · refine chk_ok h0 ha hb k (at_ + 1) _ k' (setF g (n + at_) v) g' c (fun i hi => ?_) (by omega) h2 i (by omega)
          unfold setF
          by_cases ci : i = n + at_
          · rw [if_pos ci, if_pos ci, v1]
            exact ⟨rfl, by omega⟩
          · rw [if_neg ci, if_neg ci]
            exact hg i (by omega)
    · cases hc
end DV
set_option Elab.async false
set_option linter.all false
set_option maxRecDepth 100000
set_option maxHeartbeats 4000000
namespace DV
open PySem
def lns : Nat → List (List Int)
  | 0 => [[]]
  | k + 1 => (lns k).flatMap fun t => [(-2 : Int), -1, 0, 1, 2].map fun v => v :: t
theorem mem_lns : ∀ t : List Int, (∀ v ∈ t, -2 ≤ v ∧ v ≤ 2) → t ∈ lns t.length
  | [], _ => by simp [lns]
  | v :: t, h => by
    have ih := mem_lns t fun u hu => h u (List.mem_cons_of_mem _ hu)
    have hv := h v List.mem_cons_self
    refine List.mem_flatMap.mpr ⟨t, ih, List.mem_map.mpr ⟨v, ?_, rfl⟩⟩
    have : v = -2 ∨ v = -1 ∨ v = 0 ∨ v = 1 ∨ v = 2 := by omega
    rcases this with rfl | rfl | rfl | rfl | rfl <;> decide
def webL (l : Nat → Int) : Nat → Nat → Int
  | 0, b => l b
  | a + 1, 0 => - l (a + 1)
  | a + 1, b + 1 => webL l a b - addZ (- l (a + 1)) (l (b + 1))
def steadyL (n : Nat) (l : Nat → Int) : Bool := (List.range (n - 1)).all fun b => decide (webL l (n - 1) b = - l (b + 1))
def lineF (t : List Int) (y : Nat) : Int := ((0 : Int) :: t).getD y 0
def chkLine (n : Nat) (t : List Int) : Bool := !(steadyL n (lineF t)) || chkN n (fun y => (-(lineF t y)).toNat) (fun y => (lineF t y).toNat) (11 - n) 0 fun _ => 1
theorem chk1 : (lns 0).all (chkLine 1) = true := by decide +kernel
theorem chk2 : (lns 1).all (chkLine 2) = true := by decide +kernel
theorem chk3 : (lns 2).all (chkLine 3) = true := by decide +kernel
theorem chk4 : (lns 3).all (chkLine 4) = true := by decide +kernel
theorem chk5 : (lns 4).all (chkLine 5) = true := by decide +kernel
theorem chk_at {n : Nat} (h1 : 1 ≤ n) (h5 : n ≤ 5) {t : List Int} (ht : t ∈ lns (n - 1)) : chkLine n t = true := by
  have : n = 1 ∨ n = 2 ∨ n = 3 ∨ n = 4 ∨ n = 5 := by omega
  rcases this with rfl | rfl | rfl | rfl | rfl
  · exact List.all_eq_true.mp chk1 t ht
  · exact List.all_eq_true.mp chk2 t ht
  · exact List.all_eq_true.mp chk3 t ht
  · exact List.all_eq_true.mp chk4 t ht
  · exact List.all_eq_true.mp chk5 t ht
section
variable {n : Nat} {M : Nat → Nat → Int} {b : Int}
theorem steady_step (hs : Skew b M) (h : stB n M = true) {a c : Nat} (ha : a < n) (hc : c + 1 < n) : M a c = if a + 1 = n then - M 0 (c + 1) else M (a + 1) (c + 1) + addZ (M (a + 1) 0) (M 0 (c + 1)) := by
  have e := wEq_iff.mp h a c ha (by omega)
  have e1 : movM n M a c = turnM M 0 (invN n a) (invN n c) := rfl
  have ic : invN n c = c + 1 := Nat.mod_eq_of_lt hc
  rw [← e, e1, ic, turnM_add hs]
  by_cases ca : a + 1 = n
  · have ia : invN n a = 0 := by unfold invN; rw [ca, Nat.mod_self]
    rw [if_pos ca, ia, if_pos (.inl rfl)]
    omega
  · have ia : invN n a = a + 1 := Nat.mod_eq_of_lt (by omega)
    rw [if_neg ca, ia, if_neg (by omega)]
theorem webL_eq (hs : Skew b M) (h : stB n M = true) {l : Nat → Int} (hl : ∀ y, y < n → l y = M 0 y) : ∀ a c, a < n → c < n → webL l a c = M a c
  | 0, c, _, hc => by rw [webL]; exact hl c hc
  | a + 1, 0, ha, _ => by rw [webL, hl _ ha]; exact (hs 0 (a + 1)).1.symm
  | a + 1, c + 1, ha, hc => by
    rw [webL, webL_eq hs h hl a c (by omega) (by omega), hl _ ha, hl _ hc]
    have e := steady_step hs h (a := a) (c := c) (by omega) hc
    rw [if_neg (by omega)] at e
    have e2 := (hs 0 (a + 1)).1
    rw [e, ← e2]
    omega
theorem whole_ok (h1 : 1 ≤ n) (h5 : n ≤ 5) (hs : Skew b M) (h : stB n M = true) (hb : B2 n (M 0)) {k : Nat} (hk : k ≤ 11 - n) {g : Nat → Shr} (hg : seqG n M k 0 (fun _ => (1, 1)) = some g) : ∀ i, i < n + k → (g i).2 = 1 := by
  let t : List Int := (List.range (n - 1)).map fun y => M 0 (y + 1)
  have ht : t ∈ lns (n - 1) := by
    have := mem_lns t (fun v hv => by
      obtain ⟨y, hy, rfl⟩ := List.mem_map.mp hv
      have := List.mem_range.mp hy
      exact hb (y + 1) (by omega))
    rwa [show t.length = n - 1 by simp [t]] at this
  have m0 : M 0 0 = 0 := by have := (hs 0 0).1; omega
  have hl : ∀ y, y < n → lineF t y = M 0 y := fun y hy => by
    unfold lineF
    cases y with
    | zero => rw [m0]; rfl
    | succ y =>
      have : y < n - 1 := by omega
      simp [t, List.getD, this]
  have hst : steadyL n (lineF t) = true := by
    unfold steadyL
    rw [List.all_eq_true]
    intro c hc
    have hc' := List.mem_range.mp hc
    rw [decide_eq_true_eq, webL_eq hs h hl _ _ (by omega) (by omega), hl _ (by omega)]
    have e := steady_step hs h (a := n - 1) (c := c) (by omega) (by omega)
    rwa [if_pos (by omega)] at e
  have ck := chk_at h1 h5 ht
  unfold chkLine at ck
  rw [hst, Bool.not_true, Bool.false_or] at ck
  have r := chk_ok (M := M) (by omega) (fun y hy => by rw [hl y hy, ← (hs 0 y).1]) (fun y hy => by rw [hl y hy]) (11 - n) 0 (fun _ => 1) k (fun _ => (1, 1)) g ck (fun i hi => ⟨rfl, Nat.one_pos⟩) hk hg
  intro i hi
  exact r i (by omega)
end
end DV
set_option Elab.async false
set_option linter.all false
set_option maxRecDepth 100000
set_option maxHeartbeats 4000000
namespace DV
open PySem
theorem z_binE {gg : PyData → PyData → Option PyData} {fa fb : DE} {sl : Sl} {S S1 : Sto} {e : Exn} (h : fa sl S = .er e S1) : bin gg fa fb sl S = .er e S1 := by
  show (fa sl S).bind _ = _
  rw [h]; rfl
theorem z_wgoT {c : DB} {g : DS} {k : Nat} {sl sl2 : Sl} {S S1 S2 : Sto} {r : RS} (h : c sl S = .ok true S1) (h2 : g sl S1 = .nx sl2 S2) (h3 : wgo c g k sl2 S2 = r) : wgo c g (k + 1) sl S = r := by
  show thenS (c sl S) sl _ = r
  rw [h]
  show (match g sl S1 with | .nx sl2 S2 => wgo c g k sl2 S2 | .ct sl2 S2 => wgo c g k sl2 S2 | .bk sl2 S2 => .nx sl2 S2 | .rt d S2 => .rt d S2 | .er e sl2 S2 => .er e sl2 S2 | .bad => .bad) = r
  rw [h2]
  exact h3
theorem z_wgoF {c : DB} {g : DS} {k : Nat} {sl : Sl} {S S1 : Sto} (h : c sl S = .ok false S1) : wgo c g (k + 1) sl S = .nx sl S1 := by
  show thenS (c sl S) sl _ = _
  rw [h]; rfl
theorem slE_L {n a k : Nat} {g : Nat → Shr} {x : Val} {fa : DE} {fl fh : DO} {lo hi : Option Int} {sl : Sl} {S : Sto} (h : fa sl S = .ok x S) (hd : DV.dat S x = some (.list (shL n g))) (hl : fl sl S = .ok lo S) (hh : fh sl S = .ok hi S)
    (e1 : HT.sIx n 0 lo = a) (e2 : HT.sIx n n hi = a + k) (hk : a + k ≤ n) : slE fa fl fh sl S = .ok (.d (.list (shL k fun y => g (a + y)))) S := by
  unfold slE
  rw [h]
  simp only [R.bind]
  rw [hl]
  simp only []
  rw [hh]
  simp only []
  unfold slV
  rw [hd]
  simp only []
  unfold cutX
  rw [shl_len, e1, e2, Nat.add_sub_cancel_left]
  unfold shL
  rw [cut_map (fun k => shD (g k)) hk]
theorem slE_T {n a k : Nat} {g : Nat → Shr} {x : Val} {fa : DE} {fl fh : DO} {lo hi : Option Int} {sl : Sl} {S : Sto} (h : fa sl S = .ok x S) (hd : DV.dat S x = some (.tuple (shL n g))) (hl : fl sl S = .ok lo S) (hh : fh sl S = .ok hi S)
    (e1 : HT.sIx n 0 lo = a) (e2 : HT.sIx n n hi = a + k) (hk : a + k ≤ n) : slE fa fl fh sl S = .ok (.d (.tuple (shL k fun y => g (a + y)))) S := by
  unfold slE
  rw [h]
  simp only [R.bind]
  rw [hl]
  simp only []
  rw [hh]
  simp only []
  unfold slV
  rw [hd]
  simp only []
  unfold cutX
  rw [shl_len, e1, e2, Nat.add_sub_cancel_left]
  unfold shL
  rw [cut_map (fun k => shD (g k)) hk]
theorem z_bltL {la : DL} {sl : Sl} {S S1 : Sto} {xs : List Val} {ds : List PyData} {d : PyData} {gg : List PyData → Option PyData} (h : la sl S = .ok xs S1) (h1 : dats S1 xs = some ds) (h2 : gg ds = some d) : blt gg la sl S = .ok (.d d) S1 := by
  show (la sl S).bind _ = _
  rw [h]
  show (match dats S1 xs with | some ds => okD (gg ds) S1 | none => .bad) = _
  rw [h1]
  show okD (gg ds) S1 = _
  rw [h2]; rfl
/-- the law's numbers behind a turn at 0, of a list -/
theorem vals_okL {n : Nat} {M : Nat → Nat → Int} {b : Int} {f : Nat → Shr} (h0 : 1 ≤ n) (hn : n ≤ 1000) (hs : Skew b M) (hb : b ≤ 1000000) {v : Shr} (h : newO n M 0 f = some v) :
    valsF [webD n M, .tuple [.int 0], .list (shL n f)] = .ok (.list (shL n (setF f 0 v))) := by
  have hv : valsO n M [0] f = some (setF f 0 v) := by
    show (newO n M 0 f).bind (fun v => some (setF f 0 v)) = _
    rw [h]; rfl
  obtain ⟨M', x, i, o, y, t, e⟩ := vals_go (told := .d (.tuple [.int 0])) (starts := .d (.list (shL n f))) hn [0] M f _ none none none none none ⟨by omega, ⟨b, hb, hs⟩, True.intro⟩ hv
  have e1 : asgS 3 (ownE (lstF (var 2))) (slots 9 [.d (webD n M), .d (.tuple [.int 0]), .d (.list (shL n f))]) [] = .nx (valsSl n M (.d (.tuple [.int 0])) (.d (.list (shL n f))) none none none none none) [.lst (valsL n f)] := by
    rw [z_asg (z_own (z_lstL (ds := shL n f) (z_var rfl))), ← vals_eq]
    rfl
  exact z_runP rfl (z_seq e1 (z_seq (z_for (z_seqT (z_var rfl)) e) (z_rtL (z_var rfl) frz_vals))) rfl
def dueB : DS := (exS (metE appM (var 7) (consL (ixE (callP valsF (consL (var 3) (consL (tupE (consL (cst (.int 0)) nilL)) (consL (slE (var 7) (someO (bin subD (blt lenD (consL (var 7) nilL)) (var 2))) noO) nilL)))) (cst (.int 0))) nilL)))
def dueC : DB := (asB (bin ltI (blt lenD (consL (var 7) nilL)) (var 6)))
def lawSl (sc : Val) (n : Nat) (M : Nat → Nat → Int) (moved : Val) (st : PyData) (many : Int) (due told found whole : Option Val) : Sl := [some sc, some (.loc 0), some (.d (.int n)), some (.d (webD n M)), some moved, some (.d st), some (.d (.int many)), due, told, found, whole, none, none, none]
section
variable {n : Nat} {M : Nat → Nat → Int} {b : Int} {sc moved : Val} {st : PyData} {told found whole : Option Val} {r : Ob} {g : Nat → Shr}
theorem due_len {c : Nat} {many : Int} : blt lenD (consL (var 7) nilL) (lawSl sc n M moved st many (some (.loc 1)) told found whole) [r, .lst (valsL c g)] = .ok (.d (.int c)) [r, .lst (valsL c g)] := by
  refine z_bltL (ds := [.list (shL c g)]) (z_cons (z_var rfl) z_nil) ?_ (by show some (PyData.int _) = _; rw [shl_len])
  have e2 : DV.dat [r, .lst (valsL c g)] (.loc 1) = some (.list (shL c g)) := by
    show (allD (valsL c g)).map PyData.list = _
    rw [vals_eq, allD_map]; rfl
  show (match DV.dat [r, .lst (valsL c g)] (.loc 1), dats [r, .lst (valsL c g)] [] with | some d, some ds => some (d :: ds) | _, _ => none) = _
  rw [e2]
  rfl
theorem dat_due (c : Nat) (g : Nat → Shr) : DV.dat [r, .lst (valsL c g)] (.loc 1) = some (.list (shL c g)) := by
  show (allD (valsL c g)).map PyData.list = _
  rw [vals_eq, allD_map]; rfl
theorem dueB_ok (h0 : 1 ≤ n) (hn : n ≤ 100) (hs : Skew b M) (hb : b ≤ 1000000) {at_ : Nat} {many : Int} {v : Shr} (h : newO n M 0 (fun y => g (at_ + y)) = some v) (ha : at_ ≤ 1000) :
    dueB (lawSl sc n M moved st many (some (.loc 1)) told found whole) [r, .lst (valsL (n + at_) g)] = .nx (lawSl sc n M moved st many (some (.loc 1)) told found whole) [r, .lst (valsL (n + at_ + 1) (setF g (n + at_) v))] := by
  have e1 : slE (var 7) (someO (bin subD (blt lenD (consL (var 7) nilL)) (var 2))) noO (lawSl sc n M moved st many (some (.loc 1)) told found whole) [r, .lst (valsL (n + at_) g)] = .ok (.d (.list (shL n fun y => g (at_ + y)))) [r, .lst (valsL (n + at_) g)] := by
    refine slE_L (n := n + at_) (lo := some ((at_ : Nat) : Int)) (hi := none) (z_var rfl) (dat_due _ _) (someO_ok (z_bin (d1 := .int ((n + at_ : Nat) : Int)) (d2 := .int n) due_len (z_var rfl) ?_)) rfl ?_ ?_ (by omega)
    · show some (PyData.int (((n + at_ : Nat) : Int) - (n : Int))) = _
      congr 2
      omega
    · rw [HT.sIx_nat]; omega
    · rw [HT.sIx_none]; omega
  have vk := vals_okL h0 (by omega) hs hb h
  have e2 : ixE (callP valsF (consL (var 3) (consL (tupE (consL (cst (.int 0)) nilL)) (consL (slE (var 7) (someO (bin subD (blt lenD (consL (var 7) nilL)) (var 2))) noO) nilL)))) (cst (.int 0)) (lawSl sc n M moved st many (some (.loc 1)) told found whole) [r, .lst (valsL (n + at_) g)] = .ok (.d (shD v)) [r, .lst (valsL (n + at_) g)] :=
    z_ix (z_callP (ds := [webD n M, .tuple [.int 0], .list (shL n fun y => g (at_ + y))]) (z_consD (z_var rfl) (z_consD (z_tup (ds := [.int 0]) (z_consD rfl z_nilD) (sz_ge 1 (by decide))) (z_consD e1 z_nilD))) vk) rfl (by rw [shl_0 h0]; unfold setF; rw [if_pos rfl])
  have e3 := z_ex (z_app (fo := var 7) (k := 1) (xs := valsL (n + at_) g) (y := .d (shD v)) (sl := lawSl sc n M moved st many (some (.loc 1)) told found whole) (S := [r, .lst (valsL (n + at_) g)]) (la := consL (ixE (callP valsF (consL (var 3) (consL (tupE (consL (cst (.int 0)) nilL)) (consL (slE (var 7) (someO (bin subD (blt lenD (consL (var 7) nilL)) (var 2))) noO) nilL)))) (cst (.int 0))) nilL) (z_var rfl) (z_cons e2 z_nil) rfl (by rw [vals_len, sizeLine_eq]; omega))
  rw [vals_app] at e3
  exact e3
theorem due_go (h0 : 1 ≤ n) (hn : n ≤ 100) (hs : Skew b M) (hb : b ≤ 1000000) {many : Nat} : ∀ (k at_ fl : Nat) (g g' : Nat → Shr), k < fl → at_ + k ≤ 1000 → (k = 0 → many ≤ n + at_) → (0 < k → n + at_ + k = many) → (∀ j, j < n + at_ → PS (g j)) → seqG n M k at_ g = some g' →
    wgo dueC dueB fl (lawSl sc n M moved st many (some (.loc 1)) told found whole) [r, .lst (valsL (n + at_) g)] = .nx (lawSl sc n M moved st many (some (.loc 1)) told found whole) [r, .lst (valsL (n + at_ + k) g')] := by
  intro k
  induction k with
  | zero =>
    intro at_ fl g g' hf _ h1 _ _ h
    cases h
    obtain ⟨fl, rfl⟩ : ∃ q, fl = q + 1 := ⟨fl - 1, by omega⟩
    refine z_wgoF (z_asB (z_bin (d1 := .int ((n + at_ : Nat) : Int)) (d2 := .int many) due_len (z_var rfl) ?_))
    show some (PyData.bool (decide (((n + at_ : Nat) : Int) < (many : Int)))) = _
    rw [decide_eq_false (by have := h1 rfl; omega)]
  | succ k ih =>
    intro at_ fl g g' hf ha h1 h2 hg h
    obtain ⟨v, e1, e2⟩ := Option.bind_eq_some_iff.mp (show (newG n M 0 fun y => g (at_ + y)).bind (fun v => seqG n M k (at_ + 1) (setF g (n + at_) v)) = some g' from h)
    obtain ⟨fl, rfl⟩ : ∃ q, fl = q + 1 := ⟨fl - 1, by omega⟩
    have hp : ∀ y, y < n → PS (g (at_ + y)) := fun y hy => hg _ (by omega)
    have hv := newG_ps (x := 0) h0 hp e1
    have o := newO_of_newG (x := 0) (fun y => (hs y 0).1) h0 hp e1
    have hm := h2 (by omega)
    refine z_wgoT (S1 := [r, .lst (valsL (n + at_) g)]) (z_asB (z_bin (d1 := .int ((n + at_ : Nat) : Int)) (d2 := .int many) due_len (z_var rfl) ?_)) (dueB_ok h0 hn hs hb o (by omega)) ?_
    · show some (PyData.bool (decide (((n + at_ : Nat) : Int) < (many : Int)))) = _
      rw [decide_eq_true (by omega)]
    · have r2 := ih (at_ + 1) fl (setF g (n + at_) v) g' (by omega) (by omega) (fun hk => by omega) (fun hk => by omega) (fun j hj => by
        unfold setF
        split
        · exact hv
        · exact hg j (by omega)) e2
      rw [show n + at_ + (k + 1) = n + (at_ + 1) + k by omega]
      exact r2
end
end DV
set_option Elab.async false
set_option linter.all false
set_option maxRecDepth 100000
set_option maxHeartbeats 4000000
namespace K28
open PySem PySem.Spec PyProof.Rows L2 DV
def top (i : Nat) : Stmt := PySem.Challenge.pw_dartwebs_k28_whole_steady.main.body.getD i (.Pass ⟨0, 0, 0, 0⟩)
structure Tx (K : PySem.W.Frag) (mg : Str → Option Value) : Prop where
  n_int : mg "int" = none
  n_len : mg "len" = none
  n_range : mg "range" = none
  n_tuple : mg "tuple" = none
  n_isinstance : mg "isinstance" = none
  n_bool : mg "bool" = none
  i_MOST_ARROWS : IsI mg "MOST_ARROWS" 1000
  n_all : mg "all" = none
  i_MOST_NODES : IsI mg "MOST_NODES" 6
  e_BadWeb : ExcC K mg "BadWeb"
  i_MOST_TURNS : IsI mg "MOST_TURNS" 200
  e_BadRow : ExcC K mg "BadRow"
  i_MOST_TOLD : IsI mg "MOST_TOLD" 1000000
  e_BadShares : ExcC K mg "BadShares"
  n_abs : mg "abs" = none
  n_max : mg "max" = none
  i_MOST_VALUE : IsI mg "MOST_VALUE" 1000000000000000000000000000000000000000000000000000000000000000000000000000000000000000000000000000000000000000000000000000000000000000000000000000000000000000000000000000000000000000000000000000000000000000000000000000000000000000000000000000000000000000000000000000000000000000000000000000000000000
  e_TooGreat : ExcC K mg "TooGreat"
  t_WHOLE : IsT K mg "WHOLE" [1, 1]
  n_zip : mg "zip" = none
  n_any : mg "any" = none
  n_list : mg "list" = none
  n_dict : mg "dict" = none
  n_sorted : mg "sorted" = none
  n_str : mg "str" = none
  e_NotSteady : ExcC K mg "NotSteady"
  i_MOST_STEPS : IsI mg "MOST_STEPS" 60
  e_BadTimes : ExcC K mg "BadTimes"
  x_NotSteady : ExmC K mg "NotSteady"
  x_TooGreat : ExmC K mg "TooGreat"
def fuel : Nat := 100000
section
variable {P : Program} {w : World} {K : PySem.W.Frag} {mg : Str → Option Value} {base : Heap}
abbrev s__law_taken : Stmt := top 47
abbrev N__law_taken : List Str := ["_law_row", "_law_many", "_law_cell", "_law_found"]
theorem sc__law_taken : FnScope N__law_taken ["_law_row", "_law_many"] (defScope s__law_taken) := ⟨rfl, rfl, rfl, by decide +kernel, rfl, by decide +kernel, by decide +kernel⟩
def D__law_taken : DS :=
  (seqS (ifS (asB (bin gtI (ixE (var 0) (cst (.int 3))) (cst (.int 0)))) (seqS (asgS 3 (bin modD (blt intD (consL (ixE (var 0) (cst (.int 3))) nilL)) (var 1)))
  (seqS (putS (bin divD (ixE (var 0) (cst (.int 3))) (var 1)) (var 0) (cst (.int 3)))
  (rtS (var 3)))) nilS)
  (seqS (putS (bin addD (ixE (var 0) (cst (.int 1))) (cst (.int 1))) (var 0) (cst (.int 1)))
  (seqS (ifS (asB (bin gtI (ixE (var 0) (cst (.int 1))) (blt lenD (consL (ixE (var 0) (cst (.int 0))) nilL)))) (seqS (putS (bin modD (blt intD (consL (bin addD (bin mulD (ixE (var 0) (cst (.int 2))) (cst (.int 48271))) (cst (.int 11))) nilL)) (cst (.int 2147483647))) (var 0) (cst (.int 2)))
  (rtS (bin modD (blt intD (consL (bin divD (ixE (var 0) (cst (.int 2))) (cst (.int 7))) nilL)) (var 1)))) nilS)
  (seqS (asgS 2 (ixE (ixE (var 0) (cst (.int 0))) (bin subD (ixE (var 0) (cst (.int 1))) (cst (.int 1)))))
  (seqS (putS (bin modD (blt intD (consL (bin addD (bin addD (bin mulD (ixE (var 0) (cst (.int 2))) (cst (.int 48271))) (var 2)) (cst (.int 11))) nilL)) (cst (.int 2147483647))) (var 0) (cst (.int 2)))
  (seqS (ifS (asB (bin geI (var 2) (bin powD (cst (.int 10)) (cst (.int 18))))) (putS (bin divD (var 2) (var 1)) (var 0) (cst (.int 3))) nilS)
  (rtS (bin modD (blt intD (consL (var 2) nilL)) (var 1)))))))))
def F__law_taken : FnR := runR 4 2 D__law_taken
theorem b__law_taken {cdv : Value} {A : Around} {outer : List Env} {s : Shared} {H : Hp} {E : XK} {f : Addr} (T : Tx K mg)  (hr : Room 0 (A.deeper (envOfC "_law_taken" (defScope s__law_taken) s.heap.objs.size f cdv))) :
    QB (cxOf (L2.CX P w) P w K mg base N__law_taken "_law_taken" (defScope s__law_taken) f cdv A outer s H E) (WE0 E) (defBody s__law_taken) D__law_taken :=
  (b_cons (s_if (t_c (cGt) (q_ix (v_ 0) q_int (fun _ _ => rfl)) q_int) (b_cons (s_set (ps_set (i := 3) sc__law_taken.nd rfl (by first | exact .inl rfl | exact .inr rfl) (q_mod (q_bt bInt T.n_int (by decide +kernel) (a_cons (q_ix (v_ 0) q_int (fun _ _ => rfl)) a_nil)) (v_ 1))))
  (b_cons (s_put (ps_asg (q_div (q_ix (v_ 0) q_int (fun _ _ => rfl)) (v_ 1)) (pg_sub (v_ 0) q_int set_list)))
  (b_one (s_ret (v_ 3))))) b_nil)
  (b_cons (s_put (ps_asg (q_add (q_ix (v_ 0) q_int (fun _ _ => rfl)) q_int) (pg_sub (v_ 0) q_int set_list)))
  (b_cons (s_if (t_c (cGt) (q_ix (v_ 0) q_int (fun _ _ => rfl)) (q_b bLen T.n_len (by decide +kernel) (a_cons (q_ix (v_ 0) q_int (fun _ _ => rfl)) a_nil))) (b_cons (s_put (ps_asg (q_mod (q_bt bInt T.n_int (by decide +kernel) (a_cons (q_add (q_mul (q_ix (v_ 0) q_int (fun _ _ => rfl)) q_int) q_int) a_nil)) q_int) (pg_sub (v_ 0) q_int set_list)))
  (b_one (s_ret (q_mod (q_bt bInt T.n_int (by decide +kernel) (a_cons (q_div (q_ix (v_ 0) q_int (fun _ _ => rfl)) q_int) a_nil)) (v_ 1))))) b_nil)
  (b_cons (s_set (ps_set (i := 2) sc__law_taken.nd rfl (by first | exact .inl rfl | exact .inr rfl) (q_ix (q_ix (v_ 0) q_int (fun _ _ => rfl)) (q_sub (q_ix (v_ 0) q_int (fun _ _ => rfl)) q_int) (fun _ _ => rfl))))
  (b_cons (s_put (ps_asg (q_mod (q_bt bInt T.n_int (by decide +kernel) (a_cons (q_add (q_add (q_mul (q_ix (v_ 0) q_int (fun _ _ => rfl)) q_int) (v_ 2)) q_int) a_nil)) q_int) (pg_sub (v_ 0) q_int set_list)))
  (b_cons (s_if (t_c (cGe) (v_ 2) (q_pow q_int q_int)) (b_one (s_put (ps_asg (q_div (v_ 2) (v_ 1)) (pg_sub (v_ 0) q_int set_list)))) b_nil)
  (b_one (s_ret (q_mod (q_bt bInt T.n_int (by decide +kernel) (a_cons (v_ 2) a_nil)) (v_ 1))))))))))
theorem ok__law_taken {f : Addr} {fd : FuncData} (T : Tx K mg)  (F : FnD K "_law_taken" s__law_taken f fd) (hm : mg "_law_taken" = some (.ref f)) : CalR P w K mg base "_law_taken" 1 ["_law_row", "_law_many"] F__law_taken :=
  ⟨fn_okR F sc__law_taken fun cdv A outer s H E hr => b__law_taken T  hr, hm, F.kp, F.bindsN (fun _ _ _ _ _ _ us hl => match us, hl with | [_, _], _ => rfl), runR_len⟩
abbrev s__law_pick : Stmt := top 48
abbrev N__law_pick : List Str := ["_law_row", "_law_things"]
theorem sc__law_pick : FnScope N__law_pick ["_law_row", "_law_things"] (defScope s__law_pick) := ⟨rfl, rfl, rfl, by decide +kernel, rfl, by decide +kernel, by decide +kernel⟩
def D__law_pick : DS :=
  (rtS (ixE (var 1) (callR F__law_taken (var 0) (consL (blt lenD (consL (var 1) nilL)) nilL))))
def F__law_pick : FnR := runR 2 2 D__law_pick
theorem b__law_pick {cdv : Value} {A : Around} {outer : List Env} {s : Shared} {H : Hp} {E : XK} {f : Addr} (T : Tx K mg) (C__law_taken : CalR P w K mg base "_law_taken" 1 ["_law_row", "_law_many"] F__law_taken) (hr : Room 1 (A.deeper (envOfC "_law_pick" (defScope s__law_pick) s.heap.objs.size f cdv))) :
    QB (cxOf (L2.CX P w) P w K mg base N__law_pick "_law_pick" (defScope s__law_pick) f cdv A outer s H E) (WE0 E) (defBody s__law_pick) D__law_pick :=
  (b_one (s_ret (q_ix (v_ 1) (q_r C__law_taken hr (by omega) (takes_of rfl rfl rfl rfl) (v_ 0) (a_cons (q_b bLen T.n_len (by decide +kernel) (a_cons (v_ 1) a_nil)) a_nil)) (fun _ _ => rfl))))
theorem ok__law_pick {f : Addr} {fd : FuncData} (T : Tx K mg) (C__law_taken : CalR P w K mg base "_law_taken" 1 ["_law_row", "_law_many"] F__law_taken) (F : FnD K "_law_pick" s__law_pick f fd) (hm : mg "_law_pick" = some (.ref f)) : CalR P w K mg base "_law_pick" 2 ["_law_row", "_law_things"] F__law_pick :=
  ⟨fn_okR F sc__law_pick fun cdv A outer s H E hr => b__law_pick T C__law_taken hr, hm, F.kp, F.bindsN (fun _ _ _ _ _ _ us hl => match us, hl with | [_, _], _ => rfl), runR_len⟩
abbrev s__law_named : Stmt := top 52
abbrev N__law_named : List Str := ["_law_web_here", "_law_order", "_law_n", "_law_table", "_law_y", "_law_z", "_law_x", "_law_line"]
theorem sc__law_named : FnScope N__law_named ["_law_web_here", "_law_order"] (defScope s__law_named) := ⟨rfl, rfl, rfl, by decide +kernel, rfl, by decide +kernel, by decide +kernel⟩
def D__law_named : DS :=
  (seqS (asgS 2 (blt lenD (consL (var 0) nilL)))
  (seqS (asgS 3 (ownE (lcF [6] (rng1 (consL (var 2) nilL)) (.nm 6) yes (ownE (repF (frzE (szF (consL (cst (.int 0)) nilL))) (var 2))))))
  (seqS (forS (rng1 (consL (var 2) nilL)) (.nm 4) (forS (rng1 (consL (var 2) nilL)) (.nm 5) (putS (ixE (ixE (var 0) (var 4)) (var 5)) (ixE (var 3) (ixE (var 1) (var 4))) (ixE (var 1) (var 5)))))
  (rtS (blt tupD (consL (frzE (lcF [7] (seqI (var 3)) (.nm 7) yes (blt tupD (consL (var 7) nilL)))) nilL))))))
def F__law_named : FnP := runP 8 2 D__law_named
theorem b__law_named {cdv : Value} {A : Around} {outer : List Env} {s : Shared} {H : Hp} {E : XK} {f : Addr} (T : Tx K mg)  (hr : Room 0 (A.deeper (envOfC "_law_named" (defScope s__law_named) s.heap.objs.size f cdv))) :
    QB (cxOf (L2.CX P w) P w K mg base N__law_named "_law_named" (defScope s__law_named) f cdv A outer s H E) (WE0 E) (defBody s__law_named) D__law_named :=
  (b_cons (s_set (ps_set (i := 2) sc__law_named.nd rfl (by first | exact .inl rfl | exact .inr rfl) (q_b bLen T.n_len (by decide +kernel) (a_cons (v_ 0) a_nil))))
  (b_cons (s_setLc Keeps.own (own := [("_law_x", 6)]) rfl sc__law_named.nd rfl rfl (sw_true rfl rfl rfl (by decide +kernel)) (i_rng1 (by rfl) T.n_range (a_cons (v_ 2) a_nil)) (blkOk_by (N := N__law_named) (sc := defScope s__law_named) (own := [("_law_x", 6)]) (by decide +kernel)) (by decide) (fun _ _ _ _ _ => (pg_name (i := 6) sc__law_named.nd rfl (by first | exact .inl rfl | exact .inr rfl))) (fun _ _ _ _ _ => ts_nil) (fun _ _ _ _ _ => (q_own (f_rep (q_frz (f_lst (a_cons q_int a_nil))) (v_ 2)))))
  (b_cons (s_for (passes_of rfl) rfl (i_rng1 (by rfl) T.n_range (a_cons (v_ 2) a_nil)) (pg_name (i := 4) sc__law_named.nd rfl (by first | exact .inl rfl | exact .inr rfl)) (b_one (s_for (passes_of rfl) rfl (i_rng1 (by rfl) T.n_range (a_cons (v_ 2) a_nil)) (pg_name (i := 5) sc__law_named.nd rfl (by first | exact .inl rfl | exact .inr rfl)) (b_one (s_put (ps_asg (q_ix (q_ix (v_ 0) (v_ 4) (fun _ _ => rfl)) (v_ 5) (fun _ _ => rfl)) (pg_sub (q_ix (v_ 3) (q_ix (v_ 1) (v_ 4) (fun _ _ => rfl)) (fun _ _ => rfl)) (q_ix (v_ 1) (v_ 5) (fun _ _ => rfl)) set_list)))))))
  (b_one (s_ret (q_bt bTuple T.n_tuple (by decide +kernel) (a_cons (q_frz (f_lc (own := [("_law_line", 7)]) rfl sc__law_named.nd (i_seq (v_ 3)) (blkOk_by (N := N__law_named) (sc := defScope s__law_named) (own := [("_law_line", 7)]) (by decide +kernel)) (by decide) (fun _ _ _ _ _ => (pg_name (i := 7) sc__law_named.nd rfl (by first | exact .inl rfl | exact .inr rfl))) (fun _ _ _ _ _ => ts_nil) (fun _ _ _ _ _ => (q_bt bTuple T.n_tuple (by decide +kernel) (a_cons (v_ 7) a_nil))))) a_nil)))))))
theorem ok__law_named {f : Addr} {fd : FuncData} (T : Tx K mg)  (F : FnD K "_law_named" s__law_named f fd) (hm : mg "_law_named" = some (.ref f)) : CalP P w K mg base "_law_named" 1 ["_law_web_here", "_law_order"] F__law_named :=
  ⟨fn_okP F sc__law_named fun cdv A outer s H E hr => b__law_named T  hr, hm, F.kp, F.bindsN (fun _ _ _ _ _ _ us hl => match us, hl with | [_, _], _ => rfl), runP_len⟩
abbrev s_is_integer : Stmt := top 12
abbrev N_is_integer : List Str := ["value"]
theorem sc_is_integer : FnScope N_is_integer ["value"] (defScope s_is_integer) := ⟨rfl, rfl, rfl, by decide +kernel, rfl, by decide +kernel, by decide +kernel⟩
def D_is_integer : DS :=
  (rtS (andV (isiE "int" (var 0)) (notV (isiE "bool" (var 0)))))
def F_is_integer : FnP := runP 1 1 D_is_integer
theorem b_is_integer {cdv : Value} {A : Around} {outer : List Env} {s : Shared} {H : Hp} {E : XK} {f : Addr} (T : Tx K mg)  (hr : Room 0 (A.deeper (envOfC "is_integer" (defScope s_is_integer) s.heap.objs.size f cdv))) :
    QB (cxOf (L2.CX P w) P w K mg base N_is_integer "is_integer" (defScope s_is_integer) f cdv A outer s H E) (WE0 E) (defBody s_is_integer) D_is_integer :=
  (b_one (s_ret (q_and (q_is T.n_isinstance T.n_int (by decide +kernel) (v_ 0)) (q_one (q_not (q_is T.n_isinstance T.n_bool (by decide +kernel) (v_ 0)))))))
theorem ok_is_integer {f : Addr} {fd : FuncData} (T : Tx K mg)  (F : FnD K "is_integer" s_is_integer f fd) (hm : mg "is_integer" = some (.ref f)) : CalP P w K mg base "is_integer" 1 ["value"] F_is_integer :=
  ⟨fn_okP F sc_is_integer fun cdv A outer s H E hr => b_is_integer T  hr, hm, F.kp, F.bindsN (fun _ _ _ _ _ _ us hl => match us, hl with | [_], _ => rfl), runP_len⟩
abbrev s_is_from : Stmt := top 13
abbrev N_is_from : List Str := ["value", "low", "high"]
theorem sc_is_from : FnScope N_is_from ["value", "low", "high"] (defScope s_is_from) := ⟨rfl, rfl, rfl, by decide +kernel, rfl, by decide +kernel, by decide +kernel⟩
def D_is_from : DS :=
  (rtS (andV (callP F_is_integer (consL (var 0) nilL)) (chain leI leI (var 1) (var 0) (var 2))))
def F_is_from : FnP := runP 3 3 D_is_from
theorem b_is_from {cdv : Value} {A : Around} {outer : List Env} {s : Shared} {H : Hp} {E : XK} {f : Addr} (T : Tx K mg) (C_is_integer : CalP P w K mg base "is_integer" 1 ["value"] F_is_integer) (hr : Room 1 (A.deeper (envOfC "is_from" (defScope s_is_from) s.heap.objs.size f cdv))) :
    QB (cxOf (L2.CX P w) P w K mg base N_is_from "is_from" (defScope s_is_from) f cdv A outer s H E) (WE0 E) (defBody s_is_from) D_is_from :=
  (b_one (s_ret (q_and (q_p C_is_integer hr (by omega) (takes_of rfl rfl rfl rfl) (a_cons (v_ 0) a_nil)) (q_one (q_cc (cLe) (cLe) (v_ 1) (v_ 0) (v_ 2))))))
theorem ok_is_from {f : Addr} {fd : FuncData} (T : Tx K mg) (C_is_integer : CalP P w K mg base "is_integer" 1 ["value"] F_is_integer) (F : FnD K "is_from" s_is_from f fd) (hm : mg "is_from" = some (.ref f)) : CalP P w K mg base "is_from" 2 ["value", "low", "high"] F_is_from :=
  ⟨fn_okP F sc_is_from fun cdv A outer s H E hr => b_is_from T C_is_integer hr, hm, F.kp, F.bindsN (fun _ _ _ _ _ _ us hl => match us, hl with | [_, _, _], _ => rfl), runP_len⟩
abbrev s_is_line : Stmt := top 14
abbrev N_is_line : List Str := ["n", "value", "many"]
theorem sc_is_line : FnScope N_is_line ["n", "value"] (defScope s_is_line) := ⟨rfl, rfl, rfl, by decide +kernel, rfl, by decide +kernel, by decide +kernel⟩
def D_is_line : DS :=
  (seqS (ifS (orB (notB (asB (isiE "tuple" (var 1)))) (asB (bin neD (blt lenD (consL (var 1) nilL)) (var 0)))) (rtS (cst (.bool false))) nilS)
  (rtS (blt allBD (consL (frzE (lcF [2] (seqI (var 1)) (.nm 2) yes (callP F_is_from (consL (var 2) (consL (un negD (cst (.int 1000))) (consL (cst (.int 1000)) nilL)))))) nilL))))
def F_is_line : FnP := runP 3 2 D_is_line
theorem b_is_line {cdv : Value} {A : Around} {outer : List Env} {s : Shared} {H : Hp} {E : XK} {f : Addr} (T : Tx K mg) (C_is_from : CalP P w K mg base "is_from" 2 ["value", "low", "high"] F_is_from) (hr : Room 2 (A.deeper (envOfC "is_line" (defScope s_is_line) s.heap.objs.size f cdv))) :
    QB (cxOf (L2.CX P w) P w K mg base N_is_line "is_line" (defScope s_is_line) f cdv A outer s H E) (WE0 E) (defBody s_is_line) D_is_line :=
  (b_cons (s_if (t_bool (w_or (t_not (t_val (q_is T.n_isinstance T.n_tuple (by decide +kernel) (v_ 1)))) (w_or1 (t_c (cNe hr) (q_b bLen T.n_len (by decide +kernel) (a_cons (v_ 1) a_nil)) (v_ 0))))) (b_one (s_ret q_bl)) b_nil)
  (b_one (s_ret (q_b (bAll rfl) T.n_all (by decide +kernel) (a_cons (q_frz (f_lc (own := [("many", 2)]) rfl sc_is_line.nd (i_seq (v_ 1)) (blkOk_by (N := N_is_line) (sc := defScope s_is_line) (own := [("many", 2)]) (by decide +kernel)) (by decide) (fun _ _ _ _ _ => (pg_name (i := 2) sc_is_line.nd rfl (by first | exact .inl rfl | exact .inr rfl))) (fun _ _ _ _ _ => ts_nil) (fun _ _ _ _ _ => (q_p C_is_from hr (by omega) takes0 (a_cons (v_ 2) (a_cons (q_neg (c_int T.i_MOST_ARROWS)) (a_cons (c_int T.i_MOST_ARROWS) a_nil))))))) a_nil)))))
theorem ok_is_line {f : Addr} {fd : FuncData} (T : Tx K mg) (C_is_from : CalP P w K mg base "is_from" 2 ["value", "low", "high"] F_is_from) (F : FnD K "is_line" s_is_line f fd) (hm : mg "is_line" = some (.ref f)) : CalP P w K mg base "is_line" 3 ["n", "value"] F_is_line :=
  ⟨fn_okP F sc_is_line fun cdv A outer s H E hr => b_is_line T C_is_from hr, hm, F.kp, F.bindsN (fun _ _ _ _ _ _ us hl => match us, hl with | [_, _], _ => rfl), runP_len⟩
abbrev s_is_web : Stmt := top 15
abbrev N_is_web : List Str := ["value", "n", "y", "z", "line"]
theorem sc_is_web : FnScope N_is_web ["value"] (defScope s_is_web) := ⟨rfl, rfl, rfl, by decide +kernel, rfl, by decide +kernel, by decide +kernel⟩
def D_is_web : DS :=
  (seqS (ifS (orB (notB (asB (isiE "tuple" (var 0)))) (notB (asB (chain leI leI (cst (.int 1)) (blt lenD (consL (var 0) nilL)) (cst (.int 6)))))) (rtS (cst (.bool false))) nilS)
  (seqS (asgS 1 (blt lenD (consL (var 0) nilL)))
  (seqS (ifS (notB (asB (blt allBD (consL (frzE (lcF [4] (seqI (var 0)) (.nm 4) yes (callP F_is_line (consL (var 1) (consL (var 4) nilL))))) nilL)))) (rtS (cst (.bool false))) nilS)
  (rtS (blt allBD (consL (frzE (lc2F [2, 3] [3] (rng1 (consL (var 1) nilL)) (.nm 2) yes (rng1 (consL (var 1) nilL)) (.nm 3) yes (bin eqD (ixE (ixE (var 0) (var 2)) (var 3)) (un negD (ixE (ixE (var 0) (var 3)) (var 2)))))) nilL))))))
def F_is_web : FnP := runP 5 1 D_is_web
theorem b_is_web {cdv : Value} {A : Around} {outer : List Env} {s : Shared} {H : Hp} {E : XK} {f : Addr} (T : Tx K mg) (C_is_line : CalP P w K mg base "is_line" 3 ["n", "value"] F_is_line) (hr : Room 3 (A.deeper (envOfC "is_web" (defScope s_is_web) s.heap.objs.size f cdv))) :
    QB (cxOf (L2.CX P w) P w K mg base N_is_web "is_web" (defScope s_is_web) f cdv A outer s H E) (WE0 E) (defBody s_is_web) D_is_web :=
  (b_cons (s_if (t_bool (w_or (t_not (t_val (q_is T.n_isinstance T.n_tuple (by decide +kernel) (v_ 0)))) (w_or1 (t_not (t_cc (cLe) (cLe) q_int (q_b bLen T.n_len (by decide +kernel) (a_cons (v_ 0) a_nil)) (c_int T.i_MOST_NODES)))))) (b_one (s_ret q_bl)) b_nil)
  (b_cons (s_set (ps_set (i := 1) sc_is_web.nd rfl (by first | exact .inl rfl | exact .inr rfl) (q_b bLen T.n_len (by decide +kernel) (a_cons (v_ 0) a_nil))))
  (b_cons (s_if (t_not (t_val (q_b (bAll rfl) T.n_all (by decide +kernel) (a_cons (q_frz (f_lc (own := [("line", 4)]) rfl sc_is_web.nd (i_seq (v_ 0)) (blkOk_by (N := N_is_web) (sc := defScope s_is_web) (own := [("line", 4)]) (by decide +kernel)) (by decide) (fun _ _ _ _ _ => (pg_name (i := 4) sc_is_web.nd rfl (by first | exact .inl rfl | exact .inr rfl))) (fun _ _ _ _ _ => ts_nil) (fun _ _ _ _ _ => (q_p C_is_line hr (by omega) takes0 (a_cons (v_ 1) (a_cons (v_ 4) a_nil)))))) a_nil)))) (b_one (s_ret q_bl)) b_nil)
  (b_one (s_ret (q_b (bAll rfl) T.n_all (by decide +kernel) (a_cons (q_frz (f_lc2 (own := [("y", 2), ("z", 3)]) (vs1 := [3]) rfl sc_is_web.nd (i_rng1 (by rfl) T.n_range (a_cons (v_ 1) a_nil)) (blkOk_by (N := N_is_web) (sc := defScope s_is_web) (own := [("y", 2), ("z", 3)]) (by decide +kernel)) (by decide) (by decide) (by decide) (fun _ _ _ _ _ => (pg_name (i := 2) sc_is_web.nd rfl (by first | exact .inl rfl | exact .inr rfl))) (fun _ _ _ _ _ => ts_nil) (fun _ _ _ _ _ => (i_rng1 (by rfl) T.n_range (a_cons (v_ 1) a_nil))) (fun _ _ _ _ _ => (pg_name (i := 3) sc_is_web.nd rfl (by first | exact .inl rfl | exact .inr rfl))) (fun _ _ _ _ _ => ts_nil) (fun _ _ _ _ _ => (q_c (cEq hr) (q_ix (q_ix (v_ 0) (v_ 2) (fun _ _ => rfl)) (v_ 3) (fun _ _ => rfl)) (q_neg (q_ix (q_ix (v_ 0) (v_ 3) (fun _ _ => rfl)) (v_ 2) (fun _ _ => rfl))))))) a_nil)))))))
theorem ok_is_web {f : Addr} {fd : FuncData} (T : Tx K mg) (C_is_line : CalP P w K mg base "is_line" 3 ["n", "value"] F_is_line) (F : FnD K "is_web" s_is_web f fd) (hm : mg "is_web" = some (.ref f)) : CalP P w K mg base "is_web" 4 ["value"] F_is_web :=
  ⟨fn_okP F sc_is_web fun cdv A outer s H E hr => b_is_web T C_is_line hr, hm, F.kp, F.bindsN (fun _ _ _ _ _ _ us hl => match us, hl with | [_], _ => rfl), runP_len⟩
abbrev s_need_web : Stmt := top 16
abbrev N_need_web : List Str := ["value"]
theorem sc_need_web : FnScope N_need_web ["value"] (defScope s_need_web) := ⟨rfl, rfl, rfl, by decide +kernel, rfl, by decide +kernel, by decide +kernel⟩
def D_need_web : DS :=
  (ifS (notB (asB (callP F_is_web (consL (var 0) nilL)))) (raS "BadWeb") nilS)
def F_need_web : FnP := runP 1 1 D_need_web
theorem b_need_web {cdv : Value} {A : Around} {outer : List Env} {s : Shared} {H : Hp} {E : XK} {f : Addr} (T : Tx K mg) (C_is_web : CalP P w K mg base "is_web" 4 ["value"] F_is_web) (hr : Room 4 (A.deeper (envOfC "need_web" (defScope s_need_web) s.heap.objs.size f cdv))) :
    QB (cxOf (L2.CX P w) P w K mg base N_need_web "need_web" (defScope s_need_web) f cdv A outer s H E) (WE0 E) (defBody s_need_web) D_need_web :=
  (b_one (s_if (t_not (t_val (q_p C_is_web hr (by omega) (takes_of rfl rfl rfl rfl) (a_cons (v_ 0) a_nil)))) (b_one (s_ra rfl (takes_of rfl rfl rfl rfl) T.e_BadWeb)) b_nil))
theorem ok_need_web {f : Addr} {fd : FuncData} (T : Tx K mg) (C_is_web : CalP P w K mg base "is_web" 4 ["value"] F_is_web) (F : FnD K "need_web" s_need_web f fd) (hm : mg "need_web" = some (.ref f)) : CalP P w K mg base "need_web" 5 ["value"] F_need_web :=
  ⟨fn_okP F sc_need_web fun cdv A outer s H E hr => b_need_web T C_is_web hr, hm, F.kp, F.bindsN (fun _ _ _ _ _ _ us hl => match us, hl with | [_], _ => rfl), runP_len⟩
abbrev s_is_row : Stmt := top 22
abbrev N_is_row : List Str := ["n", "value", "x"]
theorem sc_is_row : FnScope N_is_row ["n", "value"] (defScope s_is_row) := ⟨rfl, rfl, rfl, by decide +kernel, rfl, by decide +kernel, by decide +kernel⟩
def D_is_row : DS :=
  (rtS (andV (isiE "tuple" (var 1)) (andV (bin leI (blt lenD (consL (var 1) nilL)) (cst (.int 200))) (blt allBD (consL (frzE (lcF [2] (seqI (var 1)) (.nm 2) yes (callP F_is_from (consL (var 2) (consL (cst (.int 0)) (consL (bin subD (var 0) (cst (.int 1))) nilL)))))) nilL)))))
def F_is_row : FnP := runP 3 2 D_is_row
theorem b_is_row {cdv : Value} {A : Around} {outer : List Env} {s : Shared} {H : Hp} {E : XK} {f : Addr} (T : Tx K mg) (C_is_from : CalP P w K mg base "is_from" 2 ["value", "low", "high"] F_is_from) (hr : Room 2 (A.deeper (envOfC "is_row" (defScope s_is_row) s.heap.objs.size f cdv))) :
    QB (cxOf (L2.CX P w) P w K mg base N_is_row "is_row" (defScope s_is_row) f cdv A outer s H E) (WE0 E) (defBody s_is_row) D_is_row :=
  (b_one (s_ret (q_and (q_is T.n_isinstance T.n_tuple (by decide +kernel) (v_ 1)) (q_and (q_c (cLe) (q_b bLen T.n_len (by decide +kernel) (a_cons (v_ 1) a_nil)) (c_int T.i_MOST_TURNS)) (q_one (q_b (bAll rfl) T.n_all (by decide +kernel) (a_cons (q_frz (f_lc (own := [("x", 2)]) rfl sc_is_row.nd (i_seq (v_ 1)) (blkOk_by (N := N_is_row) (sc := defScope s_is_row) (own := [("x", 2)]) (by decide +kernel)) (by decide) (fun _ _ _ _ _ => (pg_name (i := 2) sc_is_row.nd rfl (by first | exact .inl rfl | exact .inr rfl))) (fun _ _ _ _ _ => ts_nil) (fun _ _ _ _ _ => (q_p C_is_from hr (by omega) takes0 (a_cons (v_ 2) (a_cons q_int (a_cons (q_sub (v_ 0) q_int) a_nil))))))) a_nil)))))))
theorem ok_is_row {f : Addr} {fd : FuncData} (T : Tx K mg) (C_is_from : CalP P w K mg base "is_from" 2 ["value", "low", "high"] F_is_from) (F : FnD K "is_row" s_is_row f fd) (hm : mg "is_row" = some (.ref f)) : CalP P w K mg base "is_row" 3 ["n", "value"] F_is_row :=
  ⟨fn_okP F sc_is_row fun cdv A outer s H E hr => b_is_row T C_is_from hr, hm, F.kp, F.bindsN (fun _ _ _ _ _ _ us hl => match us, hl with | [_, _], _ => rfl), runP_len⟩
abbrev s_need_row : Stmt := top 23
abbrev N_need_row : List Str := ["web", "value"]
theorem sc_need_row : FnScope N_need_row ["web", "value"] (defScope s_need_row) := ⟨rfl, rfl, rfl, by decide +kernel, rfl, by decide +kernel, by decide +kernel⟩
def D_need_row : DS :=
  (seqS (exS (callP F_need_web (consL (var 0) nilL)))
  (ifS (notB (asB (callP F_is_row (consL (blt lenD (consL (var 0) nilL)) (consL (var 1) nilL))))) (raS "BadRow") nilS))
def F_need_row : FnP := runP 2 2 D_need_row
theorem b_need_row {cdv : Value} {A : Around} {outer : List Env} {s : Shared} {H : Hp} {E : XK} {f : Addr} (T : Tx K mg) (C_need_web : CalP P w K mg base "need_web" 5 ["value"] F_need_web) (C_is_row : CalP P w K mg base "is_row" 3 ["n", "value"] F_is_row) (hr : Room 5 (A.deeper (envOfC "need_row" (defScope s_need_row) s.heap.objs.size f cdv))) :
    QB (cxOf (L2.CX P w) P w K mg base N_need_row "need_row" (defScope s_need_row) f cdv A outer s H E) (WE0 E) (defBody s_need_row) D_need_row :=
  (b_cons (s_expr (q_p C_need_web hr (by omega) (takes_of rfl rfl rfl rfl) (a_cons (v_ 0) a_nil)))
  (b_one (s_if (t_not (t_val (q_p C_is_row hr (by omega) (takes_of rfl rfl rfl rfl) (a_cons (q_b bLen T.n_len (by decide +kernel) (a_cons (v_ 0) a_nil)) (a_cons (v_ 1) a_nil))))) (b_one (s_ra rfl (takes_of rfl rfl rfl rfl) T.e_BadRow)) b_nil)))
theorem ok_need_row {f : Addr} {fd : FuncData} (T : Tx K mg) (C_need_web : CalP P w K mg base "need_web" 5 ["value"] F_need_web) (C_is_row : CalP P w K mg base "is_row" 3 ["n", "value"] F_is_row) (F : FnD K "need_row" s_need_row f fd) (hm : mg "need_row" = some (.ref f)) : CalP P w K mg base "need_row" 6 ["web", "value"] F_need_row :=
  ⟨fn_okP F sc_need_row fun cdv A outer s H E hr => b_need_row T C_need_web C_is_row hr, hm, F.kp, F.bindsN (fun _ _ _ _ _ _ us hl => match us, hl with | [_, _], _ => rfl), runP_len⟩
abbrev s_common : Stmt := top 29
abbrev N_common : List Str := ["one", "other"]
theorem sc_common : FnScope N_common ["one", "other"] (defScope s_common) := ⟨rfl, rfl, rfl, by decide +kernel, rfl, by decide +kernel, by decide +kernel⟩
def D_common : DS :=
  (seqS (whS fuel (asB (bin gtI (var 1) (cst (.int 0)))) (parS [0, 1] (consL (var 1) (consL (bin modD (var 0) (var 1)) nilL))))
  (rtS (var 0)))
def F_common : FnP := runP 2 2 D_common
theorem b_common {cdv : Value} {A : Around} {outer : List Env} {s : Shared} {H : Hp} {E : XK} {f : Addr} (T : Tx K mg)  (hr : Room 0 (A.deeper (envOfC "common" (defScope s_common) s.heap.objs.size f cdv))) :
    QB (cxOf (L2.CX P w) P w K mg base N_common "common" (defScope s_common) f cdv A outer s H E) (WE0 E) (defBody s_common) D_common :=
  (b_cons (s_while (n := fuel) (passes_of rfl) (t_c (cGt) (v_ 1) q_int) (b_one (s_par (ps_par (i := 0) (j := 1) rfl sc_common.nd rfl rfl (by decide) rfl rfl (a_cons (v_ 1) (a_cons (q_mod (v_ 0) (v_ 1)) a_nil)) (by rfl)))))
  (b_one (s_ret (v_ 0))))
theorem ok_common {f : Addr} {fd : FuncData} (T : Tx K mg)  (F : FnD K "common" s_common f fd) (hm : mg "common" = some (.ref f)) : CalP P w K mg base "common" 1 ["one", "other"] F_common :=
  ⟨fn_okP F sc_common fun cdv A outer s H E hr => b_common T  hr, hm, F.kp, F.bindsN (fun _ _ _ _ _ _ us hl => match us, hl with | [_, _], _ => rfl), runP_len⟩
abbrev s_is_start : Stmt := top 34
abbrev N_is_start : List Str := ["value", "part"]
theorem sc_is_start : FnScope N_is_start ["value"] (defScope s_is_start) := ⟨rfl, rfl, rfl, by decide +kernel, rfl, by decide +kernel, by decide +kernel⟩
def D_is_start : DS :=
  (seqS (ifS (orB (notB (asB (isiE "tuple" (var 0)))) (orB (asB (bin neD (blt lenD (consL (var 0) nilL)) (cst (.int 2)))) (notB (asB (blt allBD (consL (frzE (lcF [1] (seqI (var 0)) (.nm 1) yes (callP F_is_integer (consL (var 1) nilL)))) nilL)))))) (rtS (cst (.bool false))) nilS)
  (rtS (andV (callP F_is_from (consL (ixE (var 0) (cst (.int 0))) (consL (cst (.int 1)) (consL (cst (.int 1000000)) nilL)))) (andV (callP F_is_from (consL (ixE (var 0) (cst (.int 1))) (consL (cst (.int 1)) (consL (cst (.int 1000000)) nilL)))) (bin eqD (callP F_common (consL (ixE (var 0) (cst (.int 0))) (consL (ixE (var 0) (cst (.int 1))) nilL))) (cst (.int 1)))))))
def F_is_start : FnP := runP 2 1 D_is_start
theorem b_is_start {cdv : Value} {A : Around} {outer : List Env} {s : Shared} {H : Hp} {E : XK} {f : Addr} (T : Tx K mg) (C_is_from : CalP P w K mg base "is_from" 2 ["value", "low", "high"] F_is_from) (C_common : CalP P w K mg base "common" 1 ["one", "other"] F_common) (C_is_integer : CalP P w K mg base "is_integer" 1 ["value"] F_is_integer) (hr : Room 2 (A.deeper (envOfC "is_start" (defScope s_is_start) s.heap.objs.size f cdv))) :
    QB (cxOf (L2.CX P w) P w K mg base N_is_start "is_start" (defScope s_is_start) f cdv A outer s H E) (WE0 E) (defBody s_is_start) D_is_start :=
  (b_cons (s_if (t_bool (w_or (t_not (t_val (q_is T.n_isinstance T.n_tuple (by decide +kernel) (v_ 0)))) (w_or (t_c (cNe hr) (q_b bLen T.n_len (by decide +kernel) (a_cons (v_ 0) a_nil)) q_int) (w_or1 (t_not (t_val (q_b (bAll rfl) T.n_all (by decide +kernel) (a_cons (q_frz (f_lc (own := [("part", 1)]) rfl sc_is_start.nd (i_seq (v_ 0)) (blkOk_by (N := N_is_start) (sc := defScope s_is_start) (own := [("part", 1)]) (by decide +kernel)) (by decide) (fun _ _ _ _ _ => (pg_name (i := 1) sc_is_start.nd rfl (by first | exact .inl rfl | exact .inr rfl))) (fun _ _ _ _ _ => ts_nil) (fun _ _ _ _ _ => (q_p C_is_integer hr (by omega) takes0 (a_cons (v_ 1) a_nil))))) a_nil)))))))) (b_one (s_ret q_bl)) b_nil)
  (b_one (s_ret (q_and (q_p C_is_from hr (by omega) (takes_of rfl rfl rfl rfl) (a_cons (q_ix (v_ 0) q_int (fun _ _ => rfl)) (a_cons q_int (a_cons (c_int T.i_MOST_TOLD) a_nil)))) (q_and (q_p C_is_from hr (by omega) (takes_of rfl rfl rfl rfl) (a_cons (q_ix (v_ 0) q_int (fun _ _ => rfl)) (a_cons q_int (a_cons (c_int T.i_MOST_TOLD) a_nil)))) (q_one (q_c (cEq hr) (q_p C_common hr (by omega) (takes_of rfl rfl rfl rfl) (a_cons (q_ix (v_ 0) q_int (fun _ _ => rfl)) (a_cons (q_ix (v_ 0) q_int (fun _ _ => rfl)) a_nil))) q_int)))))))
theorem ok_is_start {f : Addr} {fd : FuncData} (T : Tx K mg) (C_is_from : CalP P w K mg base "is_from" 2 ["value", "low", "high"] F_is_from) (C_common : CalP P w K mg base "common" 1 ["one", "other"] F_common) (C_is_integer : CalP P w K mg base "is_integer" 1 ["value"] F_is_integer) (F : FnD K "is_start" s_is_start f fd) (hm : mg "is_start" = some (.ref f)) : CalP P w K mg base "is_start" 3 ["value"] F_is_start :=
  ⟨fn_okP F sc_is_start fun cdv A outer s H E hr => b_is_start T C_is_from C_common C_is_integer hr, hm, F.kp, F.bindsN (fun _ _ _ _ _ _ us hl => match us, hl with | [_], _ => rfl), runP_len⟩
abbrev s_need_shares : Stmt := top 35
abbrev N_need_shares : List Str := ["n", "value", "one"]
theorem sc_need_shares : FnScope N_need_shares ["n", "value"] (defScope s_need_shares) := ⟨rfl, rfl, rfl, by decide +kernel, rfl, by decide +kernel, by decide +kernel⟩
def D_need_shares : DS :=
  (ifS (orB (notB (asB (isiE "tuple" (var 1)))) (orB (asB (bin neD (blt lenD (consL (var 1) nilL)) (var 0))) (notB (asB (blt allBD (consL (frzE (lcF [2] (seqI (var 1)) (.nm 2) yes (callP F_is_start (consL (var 2) nilL)))) nilL)))))) (raS "BadShares") nilS)
def F_need_shares : FnP := runP 3 2 D_need_shares
theorem b_need_shares {cdv : Value} {A : Around} {outer : List Env} {s : Shared} {H : Hp} {E : XK} {f : Addr} (T : Tx K mg) (C_is_start : CalP P w K mg base "is_start" 3 ["value"] F_is_start) (hr : Room 3 (A.deeper (envOfC "need_shares" (defScope s_need_shares) s.heap.objs.size f cdv))) :
    QB (cxOf (L2.CX P w) P w K mg base N_need_shares "need_shares" (defScope s_need_shares) f cdv A outer s H E) (WE0 E) (defBody s_need_shares) D_need_shares :=
  (b_one (s_if (t_bool (w_or (t_not (t_val (q_is T.n_isinstance T.n_tuple (by decide +kernel) (v_ 1)))) (w_or (t_c (cNe hr) (q_b bLen T.n_len (by decide +kernel) (a_cons (v_ 1) a_nil)) (v_ 0)) (w_or1 (t_not (t_val (q_b (bAll rfl) T.n_all (by decide +kernel) (a_cons (q_frz (f_lc (own := [("one", 2)]) rfl sc_need_shares.nd (i_seq (v_ 1)) (blkOk_by (N := N_need_shares) (sc := defScope s_need_shares) (own := [("one", 2)]) (by decide +kernel)) (by decide) (fun _ _ _ _ _ => (pg_name (i := 2) sc_need_shares.nd rfl (by first | exact .inl rfl | exact .inr rfl))) (fun _ _ _ _ _ => ts_nil) (fun _ _ _ _ _ => (q_p C_is_start hr (by omega) takes0 (a_cons (v_ 2) a_nil))))) a_nil)))))))) (b_one (s_ra rfl (takes_of rfl rfl rfl rfl) T.e_BadShares)) b_nil))
theorem ok_need_shares {f : Addr} {fd : FuncData} (T : Tx K mg) (C_is_start : CalP P w K mg base "is_start" 3 ["value"] F_is_start) (F : FnD K "need_shares" s_need_shares f fd) (hm : mg "need_shares" = some (.ref f)) : CalP P w K mg base "need_shares" 4 ["n", "value"] F_need_shares :=
  ⟨fn_okP F sc_need_shares fun cdv A outer s H E hr => b_need_shares T C_is_start hr, hm, F.kp, F.bindsN (fun _ _ _ _ _ _ us hl => match us, hl with | [_, _], _ => rfl), runP_len⟩
abbrev s_share : Stmt := top 30
abbrev N_share : List Str := ["top", "bottom", "part"]
theorem sc_share : FnScope N_share ["top", "bottom"] (defScope s_share) := ⟨rfl, rfl, rfl, by decide +kernel, rfl, by decide +kernel, by decide +kernel⟩
def D_share : DS :=
  (seqS (asgS 2 (callP F_common (consL (blt absD (consL (var 0) nilL)) (consL (var 1) nilL))))
  (rtS (tupE (consL (bin divD (var 0) (var 2)) (consL (bin divD (var 1) (var 2)) nilL)))))
def F_share : FnP := runP 3 2 D_share
theorem b_share {cdv : Value} {A : Around} {outer : List Env} {s : Shared} {H : Hp} {E : XK} {f : Addr} (T : Tx K mg) (C_common : CalP P w K mg base "common" 1 ["one", "other"] F_common) (hr : Room 1 (A.deeper (envOfC "share" (defScope s_share) s.heap.objs.size f cdv))) :
    QB (cxOf (L2.CX P w) P w K mg base N_share "share" (defScope s_share) f cdv A outer s H E) (WE0 E) (defBody s_share) D_share :=
  (b_cons (s_set (ps_set (i := 2) sc_share.nd rfl (by first | exact .inl rfl | exact .inr rfl) (q_p C_common hr (by omega) (takes_of rfl rfl rfl rfl) (a_cons (q_b bAbs T.n_abs (by decide +kernel) (a_cons (v_ 0) a_nil)) (a_cons (v_ 1) a_nil)))))
  (b_one (s_ret (q_tup (a_cons (q_div (v_ 0) (v_ 2)) (a_cons (q_div (v_ 1) (v_ 2)) a_nil))))))
theorem ok_share {f : Addr} {fd : FuncData} (T : Tx K mg) (C_common : CalP P w K mg base "common" 1 ["one", "other"] F_common) (F : FnD K "share" s_share f fd) (hm : mg "share" = some (.ref f)) : CalP P w K mg base "share" 2 ["top", "bottom"] F_share :=
  ⟨fn_okP F sc_share fun cdv A outer s H E hr => b_share T C_common hr, hm, F.kp, F.bindsN (fun _ _ _ _ _ _ us hl => match us, hl with | [_, _], _ => rfl), runP_len⟩
abbrev s_times_shares : Stmt := top 32
abbrev N_times_shares : List Str := ["one", "other"]
theorem sc_times_shares : FnScope N_times_shares ["one", "other"] (defScope s_times_shares) := ⟨rfl, rfl, rfl, by decide +kernel, rfl, by decide +kernel, by decide +kernel⟩
def D_times_shares : DS :=
  (rtS (callP F_share (consL (bin mulD (ixE (var 0) (cst (.int 0))) (ixE (var 1) (cst (.int 0)))) (consL (bin mulD (ixE (var 0) (cst (.int 1))) (ixE (var 1) (cst (.int 1)))) nilL))))
def F_times_shares : FnP := runP 2 2 D_times_shares
theorem b_times_shares {cdv : Value} {A : Around} {outer : List Env} {s : Shared} {H : Hp} {E : XK} {f : Addr} (T : Tx K mg) (C_share : CalP P w K mg base "share" 2 ["top", "bottom"] F_share) (hr : Room 2 (A.deeper (envOfC "times_shares" (defScope s_times_shares) s.heap.objs.size f cdv))) :
    QB (cxOf (L2.CX P w) P w K mg base N_times_shares "times_shares" (defScope s_times_shares) f cdv A outer s H E) (WE0 E) (defBody s_times_shares) D_times_shares :=
  (b_one (s_ret (q_p C_share hr (by omega) (takes_of rfl rfl rfl rfl) (a_cons (q_mul (q_ix (v_ 0) q_int (fun _ _ => rfl)) (q_ix (v_ 1) q_int (fun _ _ => rfl))) (a_cons (q_mul (q_ix (v_ 0) q_int (fun _ _ => rfl)) (q_ix (v_ 1) q_int (fun _ _ => rfl))) a_nil)))))
theorem ok_times_shares {f : Addr} {fd : FuncData} (T : Tx K mg) (C_share : CalP P w K mg base "share" 2 ["top", "bottom"] F_share) (F : FnD K "times_shares" s_times_shares f fd) (hm : mg "times_shares" = some (.ref f)) : CalP P w K mg base "times_shares" 3 ["one", "other"] F_times_shares :=
  ⟨fn_okP F sc_times_shares fun cdv A outer s H E hr => b_times_shares T C_share hr, hm, F.kp, F.bindsN (fun _ _ _ _ _ _ us hl => match us, hl with | [_, _], _ => rfl), runP_len⟩
abbrev s_need_short : Stmt := top 36
abbrev N_need_short : List Str := ["one"]
theorem sc_need_short : FnScope N_need_short ["one"] (defScope s_need_short) := ⟨rfl, rfl, rfl, by decide +kernel, rfl, by decide +kernel, by decide +kernel⟩
def D_need_short : DS :=
  (ifS (asB (bin gtI (blt maxD2 (consL (blt absD (consL (ixE (var 0) (cst (.int 0))) nilL)) (consL (ixE (var 0) (cst (.int 1))) nilL))) (cst (.int 1000000000000000000000000000000000000000000000000000000000000000000000000000000000000000000000000000000000000000000000000000000000000000000000000000000000000000000000000000000000000000000000000000000000000000000000000000000000000000000000000000000000000000000000000000000000000000000000000000000000000)))) (raS "TooGreat") nilS)
def F_need_short : FnP := runP 1 1 D_need_short
theorem b_need_short {cdv : Value} {A : Around} {outer : List Env} {s : Shared} {H : Hp} {E : XK} {f : Addr} (T : Tx K mg)  (hr : Room 0 (A.deeper (envOfC "need_short" (defScope s_need_short) s.heap.objs.size f cdv))) :
    QB (cxOf (L2.CX P w) P w K mg base N_need_short "need_short" (defScope s_need_short) f cdv A outer s H E) (WE0 E) (defBody s_need_short) D_need_short :=
  (b_one (s_if (t_c (cGt) (q_b (bMax2 rfl) T.n_max (by decide +kernel) (a_cons (q_b bAbs T.n_abs (by decide +kernel) (a_cons (q_ix (v_ 0) q_int (fun _ _ => rfl)) a_nil)) (a_cons (q_ix (v_ 0) q_int (fun _ _ => rfl)) a_nil))) (c_int T.i_MOST_VALUE)) (b_one (s_ra rfl (takes_of rfl rfl rfl rfl) T.e_TooGreat)) b_nil))
theorem ok_need_short {f : Addr} {fd : FuncData} (T : Tx K mg)  (F : FnD K "need_short" s_need_short f fd) (hm : mg "need_short" = some (.ref f)) : CalP P w K mg base "need_short" 1 ["one"] F_need_short :=
  ⟨fn_okP F sc_need_short fun cdv A outer s H E hr => b_need_short T  hr, hm, F.kp, F.bindsN (fun _ _ _ _ _ _ us hl => match us, hl with | [_], _ => rfl), runP_len⟩
abbrev s_product_of_shares : Stmt := top 38
abbrev N_product_of_shares : List Str := ["shares", "powers", "found", "one", "power", "turn"]
theorem sc_product_of_shares : FnScope N_product_of_shares ["shares", "powers"] (defScope s_product_of_shares) := ⟨rfl, rfl, rfl, by decide +kernel, rfl, by decide +kernel, by decide +kernel⟩
def D_product_of_shares : DS :=
  (seqS (asgS 2 (cst (.tuple (List.map PyData.int [1, 1]))))
  (seqS (forS (zipI (consL (var 0) (consL (var 1) nilL))) (.tp [3, 4]) (forS (rng1 (consL (var 4) nilL)) (.nm 5) (seqS (asgS 2 (callP F_times_shares (consL (var 2) (consL (var 3) nilL))))
  (exS (callP F_need_short (consL (var 2) nilL))))))
  (rtS (var 2))))
def F_product_of_shares : FnP := runP 6 2 D_product_of_shares
theorem b_product_of_shares {cdv : Value} {A : Around} {outer : List Env} {s : Shared} {H : Hp} {E : XK} {f : Addr} (T : Tx K mg) (C_times_shares : CalP P w K mg base "times_shares" 3 ["one", "other"] F_times_shares) (C_need_short : CalP P w K mg base "need_short" 1 ["one"] F_need_short) (hr : Room 3 (A.deeper (envOfC "product_of_shares" (defScope s_product_of_shares) s.heap.objs.size f cdv))) :
    QB (cxOf (L2.CX P w) P w K mg base N_product_of_shares "product_of_shares" (defScope s_product_of_shares) f cdv A outer s H E) (WE0 E) (defBody s_product_of_shares) D_product_of_shares :=
  (b_cons (s_set (ps_set (i := 2) sc_product_of_shares.nd rfl (by first | exact .inl rfl | exact .inr rfl) (c_tup T.t_WHOLE)))
  (b_cons (s_for (passes_of rfl) rfl (i_zip (by rfl) T.n_zip (a_cons (v_ 0) (a_cons (v_ 1) a_nil))) (pg_tup rfl (pgs_cons (pg_name (i := 3) sc_product_of_shares.nd rfl (by first | exact .inl rfl | exact .inr rfl)) (pgs_cons (pg_name (i := 4) sc_product_of_shares.nd rfl (by first | exact .inl rfl | exact .inr rfl)) pgs_nil))) (b_one (s_for (passes_of rfl) rfl (i_rng1 (by rfl) T.n_range (a_cons (v_ 4) a_nil)) (pg_name (i := 5) sc_product_of_shares.nd rfl (by first | exact .inl rfl | exact .inr rfl)) (b_cons (s_set (ps_set (i := 2) sc_product_of_shares.nd rfl (by first | exact .inl rfl | exact .inr rfl) (q_p C_times_shares hr (by omega) (takes_of rfl rfl rfl rfl) (a_cons (v_ 2) (a_cons (v_ 3) a_nil)))))
  (b_one (s_expr (q_p C_need_short hr (by omega) (takes_of rfl rfl rfl rfl) (a_cons (v_ 2) a_nil))))))))
  (b_one (s_ret (v_ 2)))))
theorem ok_product_of_shares {f : Addr} {fd : FuncData} (T : Tx K mg) (C_times_shares : CalP P w K mg base "times_shares" 3 ["one", "other"] F_times_shares) (C_need_short : CalP P w K mg base "need_short" 1 ["one"] F_need_short) (F : FnD K "product_of_shares" s_product_of_shares f fd) (hm : mg "product_of_shares" = some (.ref f)) : CalP P w K mg base "product_of_shares" 4 ["shares", "powers"] F_product_of_shares :=
  ⟨fn_okP F sc_product_of_shares fun cdv A outer s H E hr => b_product_of_shares T C_times_shares C_need_short hr, hm, F.kp, F.bindsN (fun _ _ _ _ _ _ us hl => match us, hl with | [_, _], _ => rfl), runP_len⟩
abbrev s_frozen : Stmt := top 17
abbrev N_frozen : List Str := ["table", "line"]
theorem sc_frozen : FnScope N_frozen ["table"] (defScope s_frozen) := ⟨rfl, rfl, rfl, by decide +kernel, rfl, by decide +kernel, by decide +kernel⟩
def D_frozen : DS :=
  (rtS (blt tupD (consL (frzE (lcF [1] (seqI (var 0)) (.nm 1) yes (blt tupD (consL (var 1) nilL)))) nilL)))
def F_frozen : FnP := runP 2 1 D_frozen
theorem b_frozen {cdv : Value} {A : Around} {outer : List Env} {s : Shared} {H : Hp} {E : XK} {f : Addr} (T : Tx K mg)  (hr : Room 0 (A.deeper (envOfC "frozen" (defScope s_frozen) s.heap.objs.size f cdv))) :
    QB (cxOf (L2.CX P w) P w K mg base N_frozen "frozen" (defScope s_frozen) f cdv A outer s H E) (WE0 E) (defBody s_frozen) D_frozen :=
  (b_one (s_ret (q_bt bTuple T.n_tuple (by decide +kernel) (a_cons (q_frz (f_lc (own := [("line", 1)]) rfl sc_frozen.nd (i_seq (v_ 0)) (blkOk_by (N := N_frozen) (sc := defScope s_frozen) (own := [("line", 1)]) (by decide +kernel)) (by decide) (fun _ _ _ _ _ => (pg_name (i := 1) sc_frozen.nd rfl (by first | exact .inl rfl | exact .inr rfl))) (fun _ _ _ _ _ => ts_nil) (fun _ _ _ _ _ => (q_bt bTuple T.n_tuple (by decide +kernel) (a_cons (v_ 1) a_nil))))) a_nil))))
theorem ok_frozen {f : Addr} {fd : FuncData} (T : Tx K mg)  (F : FnD K "frozen" s_frozen f fd) (hm : mg "frozen" = some (.ref f)) : CalP P w K mg base "frozen" 1 ["table"] F_frozen :=
  ⟨fn_okP F sc_frozen fun cdv A outer s H E hr => b_frozen T  hr, hm, F.kp, F.bindsN (fun _ _ _ _ _ _ us hl => match us, hl with | [_], _ => rfl), runP_len⟩
abbrev s_added_by : Stmt := top 18
abbrev N_added_by : List Str := ["left", "right"]
theorem sc_added_by : FnScope N_added_by ["left", "right"] (defScope s_added_by) := ⟨rfl, rfl, rfl, by decide +kernel, rfl, by decide +kernel, by decide +kernel⟩
def D_added_by : DS :=
  (rtS (bin divD (bin addD (bin mulD (blt absD (consL (var 0) nilL)) (var 1)) (bin mulD (var 0) (blt absD (consL (var 1) nilL)))) (cst (.int 2))))
def F_added_by : FnP := runP 2 2 D_added_by
theorem b_added_by {cdv : Value} {A : Around} {outer : List Env} {s : Shared} {H : Hp} {E : XK} {f : Addr} (T : Tx K mg)  (hr : Room 0 (A.deeper (envOfC "added_by" (defScope s_added_by) s.heap.objs.size f cdv))) :
    QB (cxOf (L2.CX P w) P w K mg base N_added_by "added_by" (defScope s_added_by) f cdv A outer s H E) (WE0 E) (defBody s_added_by) D_added_by :=
  (b_one (s_ret (q_div (q_add (q_mul (q_b bAbs T.n_abs (by decide +kernel) (a_cons (v_ 0) a_nil)) (v_ 1)) (q_mul (v_ 0) (q_b bAbs T.n_abs (by decide +kernel) (a_cons (v_ 1) a_nil)))) q_int)))
theorem ok_added_by {f : Addr} {fd : FuncData} (T : Tx K mg)  (F : FnD K "added_by" s_added_by f fd) (hm : mg "added_by" = some (.ref f)) : CalP P w K mg base "added_by" 1 ["left", "right"] F_added_by :=
  ⟨fn_okP F sc_added_by fun cdv A outer s H E hr => b_added_by T  hr, hm, F.kp, F.bindsN (fun _ _ _ _ _ _ us hl => match us, hl with | [_, _], _ => rfl), runP_len⟩
abbrev s_behind_turn : Stmt := top 19
abbrev N_behind_turn : List Str := ["web", "x", "n", "table", "y", "z"]
theorem sc_behind_turn : FnScope N_behind_turn ["web", "x"] (defScope s_behind_turn) := ⟨rfl, rfl, rfl, by decide +kernel, rfl, by decide +kernel, by decide +kernel⟩
def D_behind_turn : DS :=
  (seqS (parS [2, 3] (consL (blt lenD (consL (var 0) nilL)) (consL (ownE (szF nilL)) nilL)))
  (seqS (forS (rng1 (consL (var 2) nilL)) (.nm 4) (exS (metE appM (var 3) (consL (frzE (lcF [5] (rng1 (consL (var 2) nilL)) (.nm 5) yes (ifE (asB (bin inD (var 1) (tupE (consL (var 4) (consL (var 5) nilL))))) (un negD (ixE (ixE (var 0) (var 4)) (var 5))) (bin addD (ixE (ixE (var 0) (var 4)) (var 5)) (callP F_added_by (consL (ixE (ixE (var 0) (var 4)) (var 1)) (consL (ixE (ixE (var 0) (var 1)) (var 5)) nilL))))))) nilL))))
  (rtS (callP F_frozen (consL (var 3) nilL)))))
def F_behind_turn : FnP := runP 6 2 D_behind_turn
theorem b_behind_turn {cdv : Value} {A : Around} {outer : List Env} {s : Shared} {H : Hp} {E : XK} {f : Addr} (T : Tx K mg) (C_frozen : CalP P w K mg base "frozen" 1 ["table"] F_frozen) (C_added_by : CalP P w K mg base "added_by" 1 ["left", "right"] F_added_by) (hr : Room 1 (A.deeper (envOfC "behind_turn" (defScope s_behind_turn) s.heap.objs.size f cdv))) :
    QB (cxOf (L2.CX P w) P w K mg base N_behind_turn "behind_turn" (defScope s_behind_turn) f cdv A outer s H E) (WE0 E) (defBody s_behind_turn) D_behind_turn :=
  (b_cons (s_par (ps_par (i := 2) (j := 3) rfl sc_behind_turn.nd rfl rfl (by decide) rfl rfl (a_cons (q_b bLen T.n_len (by decide +kernel) (a_cons (v_ 0) a_nil)) (a_cons (q_own (f_lst a_nil)) a_nil)) (by rfl)))
  (b_cons (s_for (passes_of rfl) rfl (i_rng1 (by rfl) T.n_range (a_cons (v_ 2) a_nil)) (pg_name (i := 4) sc_behind_turn.nd rfl (by first | exact .inl rfl | exact .inr rfl)) (b_one (s_expr (q_met m_app (pe_bm PySem.F.plainAttrs_list PySem.F.slot_list_append PySem.F.type_list_append mt_append (v_ 3) (a_cons (q_frz (f_lc (own := [("z", 5)]) rfl sc_behind_turn.nd (i_rng1 (by rfl) T.n_range (a_cons (v_ 2) a_nil)) (blkOk_by (N := N_behind_turn) (sc := defScope s_behind_turn) (own := [("z", 5)]) (by decide +kernel)) (by decide) (fun _ _ _ _ _ => (pg_name (i := 5) sc_behind_turn.nd rfl (by first | exact .inl rfl | exact .inr rfl))) (fun _ _ _ _ _ => ts_nil) (fun _ _ _ _ _ => (q_if (t_c (cIn hr) (v_ 1) (q_tup (a_cons (v_ 4) (a_cons (v_ 5) a_nil)))) (q_neg (q_ix (q_ix (v_ 0) (v_ 4) (fun _ _ => rfl)) (v_ 5) (fun _ _ => rfl))) (q_add (q_ix (q_ix (v_ 0) (v_ 4) (fun _ _ => rfl)) (v_ 5) (fun _ _ => rfl)) (q_p C_added_by hr (by omega) takes0 (a_cons (q_ix (q_ix (v_ 0) (v_ 4) (fun _ _ => rfl)) (v_ 1) (fun _ _ => rfl)) (a_cons (q_ix (q_ix (v_ 0) (v_ 1) (fun _ _ => rfl)) (v_ 5) (fun _ _ => rfl)) a_nil)))))))) a_nil))))))
  (b_one (s_ret (q_p C_frozen hr (by omega) (takes_of rfl rfl rfl rfl) (a_cons (v_ 3) a_nil))))))
theorem ok_behind_turn {f : Addr} {fd : FuncData} (T : Tx K mg) (C_frozen : CalP P w K mg base "frozen" 1 ["table"] F_frozen) (C_added_by : CalP P w K mg base "added_by" 1 ["left", "right"] F_added_by) (F : FnD K "behind_turn" s_behind_turn f fd) (hm : mg "behind_turn" = some (.ref f)) : CalP P w K mg base "behind_turn" 2 ["web", "x"] F_behind_turn :=
  ⟨fn_okP F sc_behind_turn fun cdv A outer s H E hr => b_behind_turn T C_frozen C_added_by hr, hm, F.kp, F.bindsN (fun _ _ _ _ _ _ us hl => match us, hl with | [_, _], _ => rfl), runP_len⟩
abbrev s_need_small : Stmt := top 20
abbrev N_need_small : List Str := ["table", "line", "many"]
theorem sc_need_small : FnScope N_need_small ["table"] (defScope s_need_small) := ⟨rfl, rfl, rfl, by decide +kernel, rfl, by decide +kernel, by decide +kernel⟩
def D_need_small : DS :=
  (ifS (asB (blt anyBD (consL (frzE (lc2F [1, 2] [2] (seqI (var 0)) (.nm 1) yes (seqI (var 1)) (.nm 2) yes (bin gtI (blt absD (consL (var 2) nilL)) (cst (.int 1000))))) nilL))) (raS "TooGreat") nilS)
def F_need_small : FnP := runP 3 1 D_need_small
theorem b_need_small {cdv : Value} {A : Around} {outer : List Env} {s : Shared} {H : Hp} {E : XK} {f : Addr} (T : Tx K mg)  (hr : Room 0 (A.deeper (envOfC "need_small" (defScope s_need_small) s.heap.objs.size f cdv))) :
    QB (cxOf (L2.CX P w) P w K mg base N_need_small "need_small" (defScope s_need_small) f cdv A outer s H E) (WE0 E) (defBody s_need_small) D_need_small :=
  (b_one (s_if (t_val (q_b (bAny rfl) T.n_any (by decide +kernel) (a_cons (q_frz (f_lc2 (own := [("line", 1), ("many", 2)]) (vs1 := [2]) rfl sc_need_small.nd (i_seq (v_ 0)) (blkOk_by (N := N_need_small) (sc := defScope s_need_small) (own := [("line", 1), ("many", 2)]) (by decide +kernel)) (by decide) (by decide) (by decide) (fun _ _ _ _ _ => (pg_name (i := 1) sc_need_small.nd rfl (by first | exact .inl rfl | exact .inr rfl))) (fun _ _ _ _ _ => ts_nil) (fun _ _ _ _ _ => (i_seq (v_ 1))) (fun _ _ _ _ _ => (pg_name (i := 2) sc_need_small.nd rfl (by first | exact .inl rfl | exact .inr rfl))) (fun _ _ _ _ _ => ts_nil) (fun _ _ _ _ _ => (q_c (cGt) (q_b bAbs T.n_abs (by decide +kernel) (a_cons (v_ 2) a_nil)) (c_int T.i_MOST_ARROWS))))) a_nil))) (b_one (s_ra rfl (takes_of rfl rfl rfl rfl) T.e_TooGreat)) b_nil))
theorem ok_need_small {f : Addr} {fd : FuncData} (T : Tx K mg)  (F : FnD K "need_small" s_need_small f fd) (hm : mg "need_small" = some (.ref f)) : CalP P w K mg base "need_small" 1 ["table"] F_need_small :=
  ⟨fn_okP F sc_need_small fun cdv A outer s H E hr => b_need_small T  hr, hm, F.kp, F.bindsN (fun _ _ _ _ _ _ us hl => match us, hl with | [_], _ => rfl), runP_len⟩
abbrev s_turn_of : Stmt := top 21
abbrev N_turn_of : List Str := ["web", "x", "found"]
theorem sc_turn_of : FnScope N_turn_of ["web", "x"] (defScope s_turn_of) := ⟨rfl, rfl, rfl, by decide +kernel, rfl, by decide +kernel, by decide +kernel⟩
def D_turn_of : DS :=
  (seqS (asgS 2 (callP F_behind_turn (consL (var 0) (consL (var 1) nilL))))
  (seqS (exS (callP F_need_small (consL (var 2) nilL)))
  (rtS (var 2))))
def F_turn_of : FnP := runP 3 2 D_turn_of
theorem b_turn_of {cdv : Value} {A : Around} {outer : List Env} {s : Shared} {H : Hp} {E : XK} {f : Addr} (T : Tx K mg) (C_behind_turn : CalP P w K mg base "behind_turn" 2 ["web", "x"] F_behind_turn) (C_need_small : CalP P w K mg base "need_small" 1 ["table"] F_need_small) (hr : Room 2 (A.deeper (envOfC "turn_of" (defScope s_turn_of) s.heap.objs.size f cdv))) :
    QB (cxOf (L2.CX P w) P w K mg base N_turn_of "turn_of" (defScope s_turn_of) f cdv A outer s H E) (WE0 E) (defBody s_turn_of) D_turn_of :=
  (b_cons (s_set (ps_set (i := 2) sc_turn_of.nd rfl (by first | exact .inl rfl | exact .inr rfl) (q_p C_behind_turn hr (by omega) (takes_of rfl rfl rfl rfl) (a_cons (v_ 0) (a_cons (v_ 1) a_nil)))))
  (b_cons (s_expr (q_p C_need_small hr (by omega) (takes_of rfl rfl rfl rfl) (a_cons (v_ 2) a_nil)))
  (b_one (s_ret (v_ 2)))))
theorem ok_turn_of {f : Addr} {fd : FuncData} (T : Tx K mg) (C_behind_turn : CalP P w K mg base "behind_turn" 2 ["web", "x"] F_behind_turn) (C_need_small : CalP P w K mg base "need_small" 1 ["table"] F_need_small) (F : FnD K "turn_of" s_turn_of f fd) (hm : mg "turn_of" = some (.ref f)) : CalP P w K mg base "turn_of" 3 ["web", "x"] F_turn_of :=
  ⟨fn_okP F sc_turn_of fun cdv A outer s H E hr => b_turn_of T C_behind_turn C_need_small hr, hm, F.kp, F.bindsN (fun _ _ _ _ _ _ us hl => match us, hl with | [_, _], _ => rfl), runP_len⟩
abbrev s_plus_shares : Stmt := top 31
abbrev N_plus_shares : List Str := ["one", "other"]
theorem sc_plus_shares : FnScope N_plus_shares ["one", "other"] (defScope s_plus_shares) := ⟨rfl, rfl, rfl, by decide +kernel, rfl, by decide +kernel, by decide +kernel⟩
def D_plus_shares : DS :=
  (rtS (callP F_share (consL (bin addD (bin mulD (ixE (var 0) (cst (.int 0))) (ixE (var 1) (cst (.int 1)))) (bin mulD (ixE (var 1) (cst (.int 0))) (ixE (var 0) (cst (.int 1))))) (consL (bin mulD (ixE (var 0) (cst (.int 1))) (ixE (var 1) (cst (.int 1)))) nilL))))
def F_plus_shares : FnP := runP 2 2 D_plus_shares
theorem b_plus_shares {cdv : Value} {A : Around} {outer : List Env} {s : Shared} {H : Hp} {E : XK} {f : Addr} (T : Tx K mg) (C_share : CalP P w K mg base "share" 2 ["top", "bottom"] F_share) (hr : Room 2 (A.deeper (envOfC "plus_shares" (defScope s_plus_shares) s.heap.objs.size f cdv))) :
    QB (cxOf (L2.CX P w) P w K mg base N_plus_shares "plus_shares" (defScope s_plus_shares) f cdv A outer s H E) (WE0 E) (defBody s_plus_shares) D_plus_shares :=
  (b_one (s_ret (q_p C_share hr (by omega) (takes_of rfl rfl rfl rfl) (a_cons (q_add (q_mul (q_ix (v_ 0) q_int (fun _ _ => rfl)) (q_ix (v_ 1) q_int (fun _ _ => rfl))) (q_mul (q_ix (v_ 1) q_int (fun _ _ => rfl)) (q_ix (v_ 0) q_int (fun _ _ => rfl)))) (a_cons (q_mul (q_ix (v_ 0) q_int (fun _ _ => rfl)) (q_ix (v_ 1) q_int (fun _ _ => rfl))) a_nil)))))
theorem ok_plus_shares {f : Addr} {fd : FuncData} (T : Tx K mg) (C_share : CalP P w K mg base "share" 2 ["top", "bottom"] F_share) (F : FnD K "plus_shares" s_plus_shares f fd) (hm : mg "plus_shares" = some (.ref f)) : CalP P w K mg base "plus_shares" 3 ["one", "other"] F_plus_shares :=
  ⟨fn_okP F sc_plus_shares fun cdv A outer s H E hr => b_plus_shares T C_share hr, hm, F.kp, F.bindsN (fun _ _ _ _ _ _ us hl => match us, hl with | [_, _], _ => rfl), runP_len⟩
abbrev s_turned_share : Stmt := top 33
abbrev N_turned_share : List Str := ["one"]
theorem sc_turned_share : FnScope N_turned_share ["one"] (defScope s_turned_share) := ⟨rfl, rfl, rfl, by decide +kernel, rfl, by decide +kernel, by decide +kernel⟩
def D_turned_share : DS :=
  (rtS (tupE (consL (ixE (var 0) (cst (.int 1))) (consL (ixE (var 0) (cst (.int 0))) nilL))))
def F_turned_share : FnP := runP 1 1 D_turned_share
theorem b_turned_share {cdv : Value} {A : Around} {outer : List Env} {s : Shared} {H : Hp} {E : XK} {f : Addr} (T : Tx K mg)  (hr : Room 0 (A.deeper (envOfC "turned_share" (defScope s_turned_share) s.heap.objs.size f cdv))) :
    QB (cxOf (L2.CX P w) P w K mg base N_turned_share "turned_share" (defScope s_turned_share) f cdv A outer s H E) (WE0 E) (defBody s_turned_share) D_turned_share :=
  (b_one (s_ret (q_tup (a_cons (q_ix (v_ 0) q_int (fun _ _ => rfl)) (a_cons (q_ix (v_ 0) q_int (fun _ _ => rfl)) a_nil)))))
theorem ok_turned_share {f : Addr} {fd : FuncData} (T : Tx K mg)  (F : FnD K "turned_share" s_turned_share f fd) (hm : mg "turned_share" = some (.ref f)) : CalP P w K mg base "turned_share" 1 ["one"] F_turned_share :=
  ⟨fn_okP F sc_turned_share fun cdv A outer s H E hr => b_turned_share T  hr, hm, F.kp, F.bindsN (fun _ _ _ _ _ _ us hl => match us, hl with | [_], _ => rfl), runP_len⟩
abbrev s_values_behind : Stmt := top 39
abbrev N_values_behind : List Str := ["web", "row", "shares", "found", "n", "x", "into", "out", "y"]
theorem sc_values_behind : FnScope N_values_behind ["web", "row", "shares"] (defScope s_values_behind) := ⟨rfl, rfl, rfl, by decide +kernel, rfl, by decide +kernel, by decide +kernel⟩
def D_values_behind : DS :=
  (seqS (parS [3, 4] (consL (ownE (lstF (var 2))) (consL (blt lenD (consL (var 0) nilL)) nilL)))
  (seqS (forS (seqI (var 1)) (.nm 5) (seqS (asgS 6 (callQ F_product_of_shares (consL (var 3) (consL (frzE (lcF [8] (rng1 (consL (var 4) nilL)) (.nm 8) yes (blt maxD2 (consL (cst (.int 0)) (consL (ixE (ixE (var 0) (var 8)) (var 5)) nilL))))) nilL))))
  (seqS (asgS 7 (callQ F_product_of_shares (consL (var 3) (consL (frzE (lcF [8] (rng1 (consL (var 4) nilL)) (.nm 8) yes (blt maxD2 (consL (cst (.int 0)) (consL (ixE (ixE (var 0) (var 5)) (var 8)) nilL))))) nilL))))
  (seqS (putS (callP F_times_shares (consL (callP F_plus_shares (consL (var 6) (consL (var 7) nilL))) (consL (callP F_turned_share (consL (ixE (var 3) (var 5)) nilL)) nilL))) (var 3) (var 5))
  (seqS (exS (callP F_need_short (consL (ixE (var 3) (var 5)) nilL)))
  (asgS 0 (callP F_turn_of (consL (var 0) (consL (var 5) nilL)))))))))
  (rtS (var 3))))
def F_values_behind : FnP := runP 9 3 D_values_behind
theorem b_values_behind {cdv : Value} {A : Around} {outer : List Env} {s : Shared} {H : Hp} {E : XK} {f : Addr} (T : Tx K mg) (C_product_of_shares : CalP P w K mg base "product_of_shares" 4 ["shares", "powers"] F_product_of_shares) (C_times_shares : CalP P w K mg base "times_shares" 3 ["one", "other"] F_times_shares) (C_need_short : CalP P w K mg base "need_short" 1 ["one"] F_need_short) (C_turn_of : CalP P w K mg base "turn_of" 3 ["web", "x"] F_turn_of) (C_plus_shares : CalP P w K mg base "plus_shares" 3 ["one", "other"] F_plus_shares) (C_turned_share : CalP P w K mg base "turned_share" 1 ["one"] F_turned_share) (hr : Room 4 (A.deeper (envOfC "values_behind" (defScope s_values_behind) s.heap.objs.size f cdv))) :
    QB (cxOf (L2.CX P w) P w K mg base N_values_behind "values_behind" (defScope s_values_behind) f cdv A outer s H E) (WE0 E) (defBody s_values_behind) D_values_behind :=
  (b_cons (s_par (ps_par (i := 3) (j := 4) rfl sc_values_behind.nd rfl rfl (by decide) rfl rfl (a_cons (q_own (f_list (pe_callTy call_list_of (by rfl) T.n_list (by decide +kernel) (pa_cons (v_ 2) pa_nil)))) (a_cons (q_b bLen T.n_len (by decide +kernel) (a_cons (v_ 0) a_nil)) a_nil)) (by rfl)))
  (b_cons (s_for (passes_of rfl) rfl (i_seq (v_ 1)) (pg_name (i := 5) sc_values_behind.nd rfl (by first | exact .inl rfl | exact .inr rfl)) (b_cons (s_set (ps_set (i := 6) sc_values_behind.nd rfl (by first | exact .inl rfl | exact .inr rfl) (q_l C_product_of_shares hr (by omega) (takes_of rfl rfl rfl rfl) (a_cons (v_ 3) (a_cons (q_frz (f_lc (own := [("y", 8)]) rfl sc_values_behind.nd (i_rng1 (by rfl) T.n_range (a_cons (v_ 4) a_nil)) (blkOk_by (N := N_values_behind) (sc := defScope s_values_behind) (own := [("y", 8)]) (by decide +kernel)) (by decide) (fun _ _ _ _ _ => (pg_name (i := 8) sc_values_behind.nd rfl (by first | exact .inl rfl | exact .inr rfl))) (fun _ _ _ _ _ => ts_nil) (fun _ _ _ _ _ => (q_b (bMax2 rfl) T.n_max (by decide +kernel) (a_cons q_int (a_cons (q_ix (q_ix (v_ 0) (v_ 8) (fun _ _ => rfl)) (v_ 5) (fun _ _ => rfl)) a_nil)))))) a_nil)))))
  (b_cons (s_set (ps_set (i := 7) sc_values_behind.nd rfl (by first | exact .inl rfl | exact .inr rfl) (q_l C_product_of_shares hr (by omega) (takes_of rfl rfl rfl rfl) (a_cons (v_ 3) (a_cons (q_frz (f_lc (own := [("y", 8)]) rfl sc_values_behind.nd (i_rng1 (by rfl) T.n_range (a_cons (v_ 4) a_nil)) (blkOk_by (N := N_values_behind) (sc := defScope s_values_behind) (own := [("y", 8)]) (by decide +kernel)) (by decide) (fun _ _ _ _ _ => (pg_name (i := 8) sc_values_behind.nd rfl (by first | exact .inl rfl | exact .inr rfl))) (fun _ _ _ _ _ => ts_nil) (fun _ _ _ _ _ => (q_b (bMax2 rfl) T.n_max (by decide +kernel) (a_cons q_int (a_cons (q_ix (q_ix (v_ 0) (v_ 5) (fun _ _ => rfl)) (v_ 8) (fun _ _ => rfl)) a_nil)))))) a_nil)))))
  (b_cons (s_put (ps_asg (q_p C_times_shares hr (by omega) (takes_of rfl rfl rfl rfl) (a_cons (q_p C_plus_shares hr (by omega) (takes_of rfl rfl rfl rfl) (a_cons (v_ 6) (a_cons (v_ 7) a_nil))) (a_cons (q_p C_turned_share hr (by omega) (takes_of rfl rfl rfl rfl) (a_cons (q_ix (v_ 3) (v_ 5) (fun _ _ => rfl)) a_nil)) a_nil))) (pg_sub (v_ 3) (v_ 5) set_list)))
  (b_cons (s_expr (q_p C_need_short hr (by omega) (takes_of rfl rfl rfl rfl) (a_cons (q_ix (v_ 3) (v_ 5) (fun _ _ => rfl)) a_nil)))
  (b_one (s_set (ps_set (i := 0) sc_values_behind.nd rfl (by first | exact .inl rfl | exact .inr rfl) (q_p C_turn_of hr (by omega) (takes_of rfl rfl rfl rfl) (a_cons (v_ 0) (a_cons (v_ 5) a_nil)))))))))))
  (b_one (s_ret (v_ 3)))))
theorem ok_values_behind {f : Addr} {fd : FuncData} (T : Tx K mg) (C_product_of_shares : CalP P w K mg base "product_of_shares" 4 ["shares", "powers"] F_product_of_shares) (C_times_shares : CalP P w K mg base "times_shares" 3 ["one", "other"] F_times_shares) (C_need_short : CalP P w K mg base "need_short" 1 ["one"] F_need_short) (C_turn_of : CalP P w K mg base "turn_of" 3 ["web", "x"] F_turn_of) (C_plus_shares : CalP P w K mg base "plus_shares" 3 ["one", "other"] F_plus_shares) (C_turned_share : CalP P w K mg base "turned_share" 1 ["one"] F_turned_share) (F : FnD K "values_behind" s_values_behind f fd) (hm : mg "values_behind" = some (.ref f)) : CalP P w K mg base "values_behind" 5 ["web", "row", "shares"] F_values_behind :=
  ⟨fn_okP F sc_values_behind fun cdv A outer s H E hr => b_values_behind T C_product_of_shares C_times_shares C_need_short C_turn_of C_plus_shares C_turned_share hr, hm, F.kp, F.bindsN (fun _ _ _ _ _ _ us hl => match us, hl with | [_, _, _], _ => rfl), runP_len⟩
abbrev s_values : Stmt := top 40
abbrev N_values : List Str := ["web", "row", "shares"]
theorem sc_values : FnScope N_values ["web", "row", "shares"] (defScope s_values) := ⟨rfl, rfl, rfl, by decide +kernel, rfl, by decide +kernel, by decide +kernel⟩
def D_values : DS :=
  (seqS (exS (callP F_need_row (consL (var 0) (consL (var 1) nilL))))
  (seqS (exS (callP F_need_shares (consL (blt lenD (consL (var 0) nilL)) (consL (var 2) nilL))))
  (rtS (blt tupD (consL (callP F_values_behind (consL (var 0) (consL (var 1) (consL (var 2) nilL)))) nilL)))))
def F_values : FnP := runP 3 3 D_values
theorem b_values {cdv : Value} {A : Around} {outer : List Env} {s : Shared} {H : Hp} {E : XK} {f : Addr} (T : Tx K mg) (C_need_row : CalP P w K mg base "need_row" 6 ["web", "value"] F_need_row) (C_need_shares : CalP P w K mg base "need_shares" 4 ["n", "value"] F_need_shares) (C_values_behind : CalP P w K mg base "values_behind" 5 ["web", "row", "shares"] F_values_behind) (hr : Room 6 (A.deeper (envOfC "values" (defScope s_values) s.heap.objs.size f cdv))) :
    QB (cxOf (L2.CX P w) P w K mg base N_values "values" (defScope s_values) f cdv A outer s H E) (WE0 E) (defBody s_values) D_values :=
  (b_cons (s_expr (q_p C_need_row hr (by omega) (takes_of rfl rfl rfl rfl) (a_cons (v_ 0) (a_cons (v_ 1) a_nil))))
  (b_cons (s_expr (q_p C_need_shares hr (by omega) (takes_of rfl rfl rfl rfl) (a_cons (q_b bLen T.n_len (by decide +kernel) (a_cons (v_ 0) a_nil)) (a_cons (v_ 2) a_nil))))
  (b_one (s_ret (q_bt bTuple T.n_tuple (by decide +kernel) (a_cons (q_p C_values_behind hr (by omega) (takes_of rfl rfl rfl rfl) (a_cons (v_ 0) (a_cons (v_ 1) (a_cons (v_ 2) a_nil)))) a_nil))))))
theorem ok_values {f : Addr} {fd : FuncData} (T : Tx K mg) (C_need_row : CalP P w K mg base "need_row" 6 ["web", "value"] F_need_row) (C_need_shares : CalP P w K mg base "need_shares" 4 ["n", "value"] F_need_shares) (C_values_behind : CalP P w K mg base "values_behind" 5 ["web", "row", "shares"] F_values_behind) (F : FnD K "values" s_values f fd) (hm : mg "values" = some (.ref f)) : CalP P w K mg base "values" 7 ["web", "row", "shares"] F_values :=
  ⟨fn_okP F sc_values fun cdv A outer s H E hr => b_values T C_need_row C_need_shares C_values_behind hr, hm, F.kp, F.bindsN (fun _ _ _ _ _ _ us hl => match us, hl with | [_, _, _], _ => rfl), runP_len⟩
abbrev s__law_turn : Stmt := top 51
abbrev N__law_turn : List Str := ["_law_web_here", "_law_x", "_law_n", "_law_table", "_law_y", "_law_z", "_law_line", "_law_more"]
theorem sc__law_turn : FnScope N__law_turn ["_law_web_here", "_law_x"] (defScope s__law_turn) := ⟨rfl, rfl, rfl, by decide +kernel, rfl, by decide +kernel, by decide +kernel⟩
def D__law_turn : DS :=
  (seqS (parS [2, 3] (consL (blt lenD (consL (var 0) nilL)) (consL (ownE (lcF [6] (seqI (var 0)) (.nm 6) yes (ownE (lstF (var 6))))) nilL)))
  (seqS (forS (rng1 (consL (var 2) nilL)) (.nm 4) (forS (rng1 (consL (var 2) nilL)) (.nm 5) (ifS (andB (asB (bin gtI (ixE (ixE (var 0) (var 4)) (var 1)) (cst (.int 0)))) (asB (bin gtI (ixE (ixE (var 0) (var 1)) (var 5)) (cst (.int 0))))) (seqS (asgS 7 (bin mulD (ixE (ixE (var 0) (var 4)) (var 1)) (ixE (ixE (var 0) (var 1)) (var 5))))
  (put2S (tupE (consL (bin addD (ixE (ixE (var 3) (var 4)) (var 5)) (var 7)) (consL (bin subD (ixE (ixE (var 3) (var 5)) (var 4)) (var 7)) nilL))) (ixE (var 3) (var 4)) (var 5) (ixE (var 3) (var 5)) (var 4))) nilS)))
  (seqS (forS (rng1 (consL (var 2) nilL)) (.nm 4) (put2S (tupE (consL (bin subD (cst (.int 0)) (ixE (ixE (var 0) (var 1)) (var 4))) (consL (bin subD (cst (.int 0)) (ixE (ixE (var 0) (var 4)) (var 1))) nilL))) (ixE (var 3) (var 1)) (var 4) (ixE (var 3) (var 4)) (var 1)))
  (rtS (blt tupD (consL (frzE (lcF [6] (seqI (var 3)) (.nm 6) yes (blt tupD (consL (var 6) nilL)))) nilL))))))
def F__law_turn : FnP := runP 8 2 D__law_turn
theorem b__law_turn {cdv : Value} {A : Around} {outer : List Env} {s : Shared} {H : Hp} {E : XK} {f : Addr} (T : Tx K mg)  (hr : Room 0 (A.deeper (envOfC "_law_turn" (defScope s__law_turn) s.heap.objs.size f cdv))) :
    QB (cxOf (L2.CX P w) P w K mg base N__law_turn "_law_turn" (defScope s__law_turn) f cdv A outer s H E) (WE0 E) (defBody s__law_turn) D__law_turn :=
  (b_cons (s_par (ps_par (i := 2) (j := 3) rfl sc__law_turn.nd rfl rfl (by decide) rfl rfl (a_cons (q_b bLen T.n_len (by decide +kernel) (a_cons (v_ 0) a_nil)) (a_cons (q_own (f_lc (own := [("_law_line", 6)]) rfl sc__law_turn.nd (i_seq (v_ 0)) (blkOk_by (N := N__law_turn) (sc := defScope s__law_turn) (own := [("_law_line", 6)]) (by decide +kernel)) (by decide) (fun _ _ _ _ _ => (pg_name (i := 6) sc__law_turn.nd rfl (by first | exact .inl rfl | exact .inr rfl))) (fun _ _ _ _ _ => ts_nil) (fun _ _ _ _ _ => (q_own (f_list (pe_callTy call_list_of (by rfl) T.n_list (by decide +kernel) (pa_cons (v_ 6) pa_nil))))))) a_nil)) (by rfl)))
  (b_cons (s_for (passes_of rfl) rfl (i_rng1 (by rfl) T.n_range (a_cons (v_ 2) a_nil)) (pg_name (i := 4) sc__law_turn.nd rfl (by first | exact .inl rfl | exact .inr rfl)) (b_one (s_for (passes_of rfl) rfl (i_rng1 (by rfl) T.n_range (a_cons (v_ 2) a_nil)) (pg_name (i := 5) sc__law_turn.nd rfl (by first | exact .inl rfl | exact .inr rfl)) (b_one (s_if (t_bool (w_and (t_c (cGt) (q_ix (q_ix (v_ 0) (v_ 4) (fun _ _ => rfl)) (v_ 1) (fun _ _ => rfl)) q_int) (w_and1 (t_c (cGt) (q_ix (q_ix (v_ 0) (v_ 1) (fun _ _ => rfl)) (v_ 5) (fun _ _ => rfl)) q_int)))) (b_cons (s_set (ps_set (i := 7) sc__law_turn.nd rfl (by first | exact .inl rfl | exact .inr rfl) (q_mul (q_ix (q_ix (v_ 0) (v_ 4) (fun _ _ => rfl)) (v_ 1) (fun _ _ => rfl)) (q_ix (q_ix (v_ 0) (v_ 1) (fun _ _ => rfl)) (v_ 5) (fun _ _ => rfl)))))
  (b_one (s_put2 (ps_asg (q_tup (a_cons (q_add (q_ix (q_ix (v_ 3) (v_ 4) (fun _ _ => rfl)) (v_ 5) (fun _ _ => rfl)) (v_ 7)) (a_cons (q_sub (q_ix (q_ix (v_ 3) (v_ 5) (fun _ _ => rfl)) (v_ 4) (fun _ _ => rfl)) (v_ 7)) a_nil))) (pg_tup rfl (pgs_cons (pg_sub (q_ix (v_ 3) (v_ 4) (fun _ _ => rfl)) (v_ 5) set_list) (pgs_cons (pg_sub (q_ix (v_ 3) (v_ 5) (fun _ _ => rfl)) (v_ 4) set_list) pgs_nil))))))) b_nil)))))
  (b_cons (s_for (passes_of rfl) rfl (i_rng1 (by rfl) T.n_range (a_cons (v_ 2) a_nil)) (pg_name (i := 4) sc__law_turn.nd rfl (by first | exact .inl rfl | exact .inr rfl)) (b_one (s_put2 (ps_asg (q_tup (a_cons (q_sub q_int (q_ix (q_ix (v_ 0) (v_ 1) (fun _ _ => rfl)) (v_ 4) (fun _ _ => rfl))) (a_cons (q_sub q_int (q_ix (q_ix (v_ 0) (v_ 4) (fun _ _ => rfl)) (v_ 1) (fun _ _ => rfl))) a_nil))) (pg_tup rfl (pgs_cons (pg_sub (q_ix (v_ 3) (v_ 1) (fun _ _ => rfl)) (v_ 4) set_list) (pgs_cons (pg_sub (q_ix (v_ 3) (v_ 4) (fun _ _ => rfl)) (v_ 1) set_list) pgs_nil)))))))
  (b_one (s_ret (q_bt bTuple T.n_tuple (by decide +kernel) (a_cons (q_frz (f_lc (own := [("_law_line", 6)]) rfl sc__law_turn.nd (i_seq (v_ 3)) (blkOk_by (N := N__law_turn) (sc := defScope s__law_turn) (own := [("_law_line", 6)]) (by decide +kernel)) (by decide) (fun _ _ _ _ _ => (pg_name (i := 6) sc__law_turn.nd rfl (by first | exact .inl rfl | exact .inr rfl))) (fun _ _ _ _ _ => ts_nil) (fun _ _ _ _ _ => (q_bt bTuple T.n_tuple (by decide +kernel) (a_cons (v_ 6) a_nil))))) a_nil)))))))
theorem ok__law_turn {f : Addr} {fd : FuncData} (T : Tx K mg)  (F : FnD K "_law_turn" s__law_turn f fd) (hm : mg "_law_turn" = some (.ref f)) : CalP P w K mg base "_law_turn" 1 ["_law_web_here", "_law_x"] F__law_turn :=
  ⟨fn_okP F sc__law_turn fun cdv A outer s H E hr => b__law_turn T  hr, hm, F.kp, F.bindsN (fun _ _ _ _ _ _ us hl => match us, hl with | [_, _], _ => rfl), runP_len⟩
abbrev s__law_alike : Stmt := top 49
abbrev N__law_alike : List Str := ["_law_found", "_law_due", "_law_k", "_law_key"]
theorem sc__law_alike : FnScope N__law_alike ["_law_found", "_law_due"] (defScope s__law_alike) := ⟨rfl, rfl, rfl, by decide +kernel, rfl, by decide +kernel, by decide +kernel⟩
def D__law_alike (R : FnP) : DS :=
  (seqS (ifS (asB (un (isiD2 "tuple" "list") (var 1))) (seqS (ifS (orB (notB (asB (un (isiD2 "tuple" "list") (var 0)))) (asB (bin neD (isiE "list" (var 0)) (isiE "list" (var 1))))) (rtS (cst (.bool false))) nilS)
  (seqS (ifS (asB (bin neD (blt lenD (consL (var 0) nilL)) (blt lenD (consL (var 1) nilL)))) (rtS (cst (.bool false))) nilS)
  (rtS (bin eqD (frzE (lcF [2] (rng1 (consL (blt lenD (consL (var 1) nilL)) nilL)) (.nm 2) (notB (asB (callP R (consL (ixE (var 0) (var 2)) (consL (ixE (var 1) (var 2)) nilL))))) (var 2))) (frzE (szF nilL)))))) nilS)
  (seqS (ifS (asB (isiE "dict" (var 1))) (seqS (ifS (orB (notB (asB (isiE "dict" (var 0)))) (asB (bin neD (blt sortD (consL (var 0) nilL)) (blt sortD (consL (var 1) nilL))))) (rtS (cst (.bool false))) nilS)
  (rtS (bin eqD (frzE (lcF [3] (seqI (var 1)) (.nm 3) (notB (asB (callP R (consL (ixE (var 0) (var 3)) (consL (ixE (var 1) (var 3)) nilL))))) (var 3))) (frzE (szF nilL))))) nilS)
  (seqS (ifS (orB (asB (bin isN (var 1) (cst .none))) (asB (isiE "str" (var 1)))) (rtS (andV (bin eqD (var 0) (var 1)) (bin eqD (isiE "str" (var 0)) (isiE "str" (var 1))))) nilS)
  (rtS (andV (isiE "int" (var 0)) (andV (bin eqD (isiE "bool" (var 0)) (isiE "bool" (var 1))) (bin eqD (var 0) (var 1))))))))
def F__law_alike : Nat → FnP
  | 0 => fun _ => .bad
  | n + 1 => runP 4 2 (D__law_alike (F__law_alike n))
theorem b__law_alike {R : FnP} {n : Nat} {cdv : Value} {A : Around} {outer : List Env} {s : Shared} {H : Hp} {E : XK} {f : Addr} (T : Tx K mg)  (C__law_alike : CalP P w K mg base "_law_alike" (0 + n) ["_law_found", "_law_due"] R) (hr : Room (0 + n) (A.deeper (envOfC "_law_alike" (defScope s__law_alike) s.heap.objs.size f cdv))) :
    QB (cxOf (L2.CX P w) P w K mg base N__law_alike "_law_alike" (defScope s__law_alike) f cdv A outer s H E) (WE0 E) (defBody s__law_alike) (D__law_alike R) :=
  (b_cons (s_if (t_val (q_is2 T.n_isinstance T.n_tuple (by decide +kernel) T.n_list (by decide +kernel) (v_ 1))) (b_cons (s_if (t_bool (w_or (t_not (t_val (q_is2 T.n_isinstance T.n_tuple (by decide +kernel) T.n_list (by decide +kernel) (v_ 0)))) (w_or1 (t_c (cNe hr) (q_is T.n_isinstance T.n_list (by decide +kernel) (v_ 0)) (q_is T.n_isinstance T.n_list (by decide +kernel) (v_ 1)))))) (b_one (s_ret q_bl)) b_nil)
  (b_cons (s_if (t_c (cNe hr) (q_b bLen T.n_len (by decide +kernel) (a_cons (v_ 0) a_nil)) (q_b bLen T.n_len (by decide +kernel) (a_cons (v_ 1) a_nil))) (b_one (s_ret q_bl)) b_nil)
  (b_one (s_ret (q_c (cEq hr) (q_frz (f_lc (own := [("_law_k", 2)]) rfl sc__law_alike.nd (i_rng1 (by rfl) T.n_range (a_cons (q_b bLen T.n_len (by decide +kernel) (a_cons (v_ 1) a_nil)) a_nil)) (blkOk_by (N := N__law_alike) (sc := defScope s__law_alike) (own := [("_law_k", 2)]) (by decide +kernel)) (by decide) (fun _ _ _ _ _ => (pg_name (i := 2) sc__law_alike.nd rfl (by first | exact .inl rfl | exact .inr rfl))) (fun _ _ _ _ _ => (ts_one (t_not (t_val (q_p C__law_alike hr (by omega) takes0 (a_cons (q_ix (v_ 0) (v_ 2) (fun _ _ => rfl)) (a_cons (q_ix (v_ 1) (v_ 2) (fun _ _ => rfl)) a_nil))))))) (fun _ _ _ _ _ => (v_ 2)))) (q_frz (f_lst a_nil))))))) b_nil)
  (b_cons (s_if (t_val (q_is T.n_isinstance T.n_dict (by decide +kernel) (v_ 1))) (b_cons (s_if (t_bool (w_or (t_not (t_val (q_is T.n_isinstance T.n_dict (by decide +kernel) (v_ 0)))) (w_or1 (t_c (cNe hr) (q_b (bSorted hr rfl) T.n_sorted (by decide +kernel) (a_cons (v_ 0) a_nil)) (q_b (bSorted hr rfl) T.n_sorted (by decide +kernel) (a_cons (v_ 1) a_nil)))))) (b_one (s_ret q_bl)) b_nil)
  (b_one (s_ret (q_c (cEq hr) (q_frz (f_lc (own := [("_law_key", 3)]) rfl sc__law_alike.nd (i_seq (v_ 1)) (blkOk_by (N := N__law_alike) (sc := defScope s__law_alike) (own := [("_law_key", 3)]) (by decide +kernel)) (by decide) (fun _ _ _ _ _ => (pg_name (i := 3) sc__law_alike.nd rfl (by first | exact .inl rfl | exact .inr rfl))) (fun _ _ _ _ _ => (ts_one (t_not (t_val (q_p C__law_alike hr (by omega) takes0 (a_cons (q_ix (v_ 0) (v_ 3) (fun _ _ => rfl)) (a_cons (q_ix (v_ 1) (v_ 3) (fun _ _ => rfl)) a_nil))))))) (fun _ _ _ _ _ => (v_ 3)))) (q_frz (f_lst a_nil)))))) b_nil)
  (b_cons (s_if (t_bool (w_or (t_c (cIs) (v_ 1) q_non) (w_or1 (t_val (q_is T.n_isinstance T.n_str (by decide +kernel) (v_ 1)))))) (b_one (s_ret (q_and (q_c (cEq hr) (v_ 0) (v_ 1)) (q_one (q_c (cEq hr) (q_is T.n_isinstance T.n_str (by decide +kernel) (v_ 0)) (q_is T.n_isinstance T.n_str (by decide +kernel) (v_ 1))))))) b_nil)
  (b_one (s_ret (q_and (q_is T.n_isinstance T.n_int (by decide +kernel) (v_ 0)) (q_and (q_c (cEq hr) (q_is T.n_isinstance T.n_bool (by decide +kernel) (v_ 0)) (q_is T.n_isinstance T.n_bool (by decide +kernel) (v_ 1))) (q_one (q_c (cEq hr) (v_ 0) (v_ 1))))))))))
theorem ok__law_alike {f : Addr} {fd : FuncData} (T : Tx K mg)  (F : FnD K "_law_alike" s__law_alike f fd) (hm : mg "_law_alike" = some (.ref f)) : ∀ n, CalP P w K mg base "_law_alike" (0 + n) ["_law_found", "_law_due"] (F__law_alike n)
  | 0 => cal0 F.kp hm (F.bindsN (fun _ _ _ _ _ _ us hl => match us, hl with | [_, _], _ => rfl))
  | n + 1 => ⟨fn_okP F sc__law_alike fun cdv A outer s H E hr => b__law_alike T  (ok__law_alike T  F hm n) hr, hm, F.kp, F.bindsN (fun _ _ _ _ _ _ us hl => match us, hl with | [_, _], _ => rfl), runP_len⟩
abbrev s__law_share : Stmt := top 53
abbrev N__law_share : List Str := ["_law_top", "_law_bottom", "_law_one", "_law_other"]
theorem sc__law_share : FnScope N__law_share ["_law_top", "_law_bottom"] (defScope s__law_share) := ⟨rfl, rfl, rfl, by decide +kernel, rfl, by decide +kernel, by decide +kernel⟩
def D__law_share : DS :=
  (seqS (parS [2, 3] (consL (blt absD (consL (var 0) nilL)) (consL (var 1) nilL)))
  (seqS (whS fuel (asB (bin gtI (var 3) (cst (.int 0)))) (parS [2, 3] (consL (var 3) (consL (bin modD (var 2) (var 3)) nilL))))
  (rtS (tupE (consL (bin divD (var 0) (var 2)) (consL (bin divD (var 1) (var 2)) nilL))))))
def F__law_share : FnP := runP 4 2 D__law_share
theorem b__law_share {cdv : Value} {A : Around} {outer : List Env} {s : Shared} {H : Hp} {E : XK} {f : Addr} (T : Tx K mg)  (hr : Room 0 (A.deeper (envOfC "_law_share" (defScope s__law_share) s.heap.objs.size f cdv))) :
    QB (cxOf (L2.CX P w) P w K mg base N__law_share "_law_share" (defScope s__law_share) f cdv A outer s H E) (WE0 E) (defBody s__law_share) D__law_share :=
  (b_cons (s_par (ps_par (i := 2) (j := 3) rfl sc__law_share.nd rfl rfl (by decide) rfl rfl (a_cons (q_b bAbs T.n_abs (by decide +kernel) (a_cons (v_ 0) a_nil)) (a_cons (v_ 1) a_nil)) (by rfl)))
  (b_cons (s_while (n := fuel) (passes_of rfl) (t_c (cGt) (v_ 3) q_int) (b_one (s_par (ps_par (i := 2) (j := 3) rfl sc__law_share.nd rfl rfl (by decide) rfl rfl (a_cons (v_ 3) (a_cons (q_mod (v_ 2) (v_ 3)) a_nil)) (by rfl)))))
  (b_one (s_ret (q_tup (a_cons (q_div (v_ 0) (v_ 2)) (a_cons (q_div (v_ 1) (v_ 2)) a_nil)))))))
theorem ok__law_share {f : Addr} {fd : FuncData} (T : Tx K mg)  (F : FnD K "_law_share" s__law_share f fd) (hm : mg "_law_share" = some (.ref f)) : CalP P w K mg base "_law_share" 1 ["_law_top", "_law_bottom"] F__law_share :=
  ⟨fn_okP F sc__law_share fun cdv A outer s H E hr => b__law_share T  hr, hm, F.kp, F.bindsN (fun _ _ _ _ _ _ us hl => match us, hl with | [_, _], _ => rfl), runP_len⟩
abbrev s__law_starts : Stmt := top 56
abbrev N__law_starts : List Str := ["_law_row", "_law_n", "_law_x"]
theorem sc__law_starts : FnScope N__law_starts ["_law_row", "_law_n"] (defScope s__law_starts) := ⟨rfl, rfl, rfl, by decide +kernel, rfl, by decide +kernel, by decide +kernel⟩
def D__law_starts : DS :=
  (rtS (blt tupD (consL (frzE (lcF [2] (rng1 (consL (var 1) nilL)) (.nm 2) yes (callP F__law_share (consL (bin addD (cst (.int 1)) (callR F__law_taken (var 0) (consL (cst (.int 7)) nilL))) (consL (bin addD (cst (.int 1)) (callR F__law_taken (var 0) (consL (cst (.int 5)) nilL))) nilL))))) nilL)))
def F__law_starts : FnR := runR 3 2 D__law_starts
theorem b__law_starts {cdv : Value} {A : Around} {outer : List Env} {s : Shared} {H : Hp} {E : XK} {f : Addr} (T : Tx K mg) (C__law_share : CalP P w K mg base "_law_share" 1 ["_law_top", "_law_bottom"] F__law_share) (C__law_taken : CalR P w K mg base "_law_taken" 1 ["_law_row", "_law_many"] F__law_taken) (hr : Room 1 (A.deeper (envOfC "_law_starts" (defScope s__law_starts) s.heap.objs.size f cdv))) :
    QB (cxOf (L2.CX P w) P w K mg base N__law_starts "_law_starts" (defScope s__law_starts) f cdv A outer s H E) (WE0 E) (defBody s__law_starts) D__law_starts :=
  (b_one (s_ret (q_bt bTuple T.n_tuple (by decide +kernel) (a_cons (q_frz (f_lc (own := [("_law_x", 2)]) rfl sc__law_starts.nd (i_rng1 (by rfl) T.n_range (a_cons (v_ 1) a_nil)) (blkOk_by (N := N__law_starts) (sc := defScope s__law_starts) (own := [("_law_x", 2)]) (by decide +kernel)) (by decide) (fun _ _ _ _ _ => (pg_name (i := 2) sc__law_starts.nd rfl (by first | exact .inl rfl | exact .inr rfl))) (fun _ _ _ _ _ => ts_nil) (fun _ _ _ _ _ => (q_p C__law_share hr (by omega) takes0 (a_cons (q_add q_int (q_r C__law_taken hr (by omega) takes0 (v_ 0) (a_cons q_int a_nil))) (a_cons (q_add q_int (q_r C__law_taken hr (by omega) takes0 (v_ 0) (a_cons q_int a_nil))) a_nil)))))) a_nil))))
theorem ok__law_starts {f : Addr} {fd : FuncData} (T : Tx K mg) (C__law_share : CalP P w K mg base "_law_share" 1 ["_law_top", "_law_bottom"] F__law_share) (C__law_taken : CalR P w K mg base "_law_taken" 1 ["_law_row", "_law_many"] F__law_taken) (F : FnD K "_law_starts" s__law_starts f fd) (hm : mg "_law_starts" = some (.ref f)) : CalR P w K mg base "_law_starts" 2 ["_law_row", "_law_n"] F__law_starts :=
  ⟨fn_okR F sc__law_starts fun cdv A outer s H E hr => b__law_starts T C__law_share C__law_taken hr, hm, F.kp, F.bindsN (fun _ _ _ _ _ _ us hl => match us, hl with | [_, _], _ => rfl), runR_len⟩
abbrev s_with_names : Stmt := top 24
abbrev N_with_names : List Str := ["web", "order", "n", "table", "y", "z", "x"]
theorem sc_with_names : FnScope N_with_names ["web", "order"] (defScope s_with_names) := ⟨rfl, rfl, rfl, by decide +kernel, rfl, by decide +kernel, by decide +kernel⟩
def D_with_names : DS :=
  (seqS (asgS 2 (blt lenD (consL (var 0) nilL)))
  (seqS (asgS 3 (ownE (lcF [6] (rng1 (consL (var 2) nilL)) (.nm 6) yes (ownE (repF (frzE (szF (consL (cst (.int 0)) nilL))) (var 2))))))
  (seqS (forS (rng1 (consL (var 2) nilL)) (.nm 4) (forS (rng1 (consL (var 2) nilL)) (.nm 5) (putS (ixE (ixE (var 0) (var 4)) (var 5)) (ixE (var 3) (ixE (var 1) (var 4))) (ixE (var 1) (var 5)))))
  (rtS (callP F_frozen (consL (var 3) nilL))))))
def F_with_names : FnP := runP 7 2 D_with_names
theorem b_with_names {cdv : Value} {A : Around} {outer : List Env} {s : Shared} {H : Hp} {E : XK} {f : Addr} (T : Tx K mg) (C_frozen : CalP P w K mg base "frozen" 1 ["table"] F_frozen) (hr : Room 1 (A.deeper (envOfC "with_names" (defScope s_with_names) s.heap.objs.size f cdv))) :
    QB (cxOf (L2.CX P w) P w K mg base N_with_names "with_names" (defScope s_with_names) f cdv A outer s H E) (WE0 E) (defBody s_with_names) D_with_names :=
  (b_cons (s_set (ps_set (i := 2) sc_with_names.nd rfl (by first | exact .inl rfl | exact .inr rfl) (q_b bLen T.n_len (by decide +kernel) (a_cons (v_ 0) a_nil))))
  (b_cons (s_setLc Keeps.own (own := [("x", 6)]) rfl sc_with_names.nd rfl rfl (sw_true rfl rfl rfl (by decide +kernel)) (i_rng1 (by rfl) T.n_range (a_cons (v_ 2) a_nil)) (blkOk_by (N := N_with_names) (sc := defScope s_with_names) (own := [("x", 6)]) (by decide +kernel)) (by decide) (fun _ _ _ _ _ => (pg_name (i := 6) sc_with_names.nd rfl (by first | exact .inl rfl | exact .inr rfl))) (fun _ _ _ _ _ => ts_nil) (fun _ _ _ _ _ => (q_own (f_rep (q_frz (f_lst (a_cons q_int a_nil))) (v_ 2)))))
  (b_cons (s_for (passes_of rfl) rfl (i_rng1 (by rfl) T.n_range (a_cons (v_ 2) a_nil)) (pg_name (i := 4) sc_with_names.nd rfl (by first | exact .inl rfl | exact .inr rfl)) (b_one (s_for (passes_of rfl) rfl (i_rng1 (by rfl) T.n_range (a_cons (v_ 2) a_nil)) (pg_name (i := 5) sc_with_names.nd rfl (by first | exact .inl rfl | exact .inr rfl)) (b_one (s_put (ps_asg (q_ix (q_ix (v_ 0) (v_ 4) (fun _ _ => rfl)) (v_ 5) (fun _ _ => rfl)) (pg_sub (q_ix (v_ 3) (q_ix (v_ 1) (v_ 4) (fun _ _ => rfl)) (fun _ _ => rfl)) (q_ix (v_ 1) (v_ 5) (fun _ _ => rfl)) set_list)))))))
  (b_one (s_ret (q_p C_frozen hr (by omega) (takes_of rfl rfl rfl rfl) (a_cons (v_ 3) a_nil)))))))
theorem ok_with_names {f : Addr} {fd : FuncData} (T : Tx K mg) (C_frozen : CalP P w K mg base "frozen" 1 ["table"] F_frozen) (F : FnD K "with_names" s_with_names f fd) (hm : mg "with_names" = some (.ref f)) : CalP P w K mg base "with_names" 2 ["web", "order"] F_with_names :=
  ⟨fn_okP F sc_with_names fun cdv A outer s H E hr => b_with_names T C_frozen hr, hm, F.kp, F.bindsN (fun _ _ _ _ _ _ us hl => match us, hl with | [_, _], _ => rfl), runP_len⟩
abbrev s_is_steady_web : Stmt := top 43
abbrev N_is_steady_web : List Str := ["web", "n", "x"]
theorem sc_is_steady_web : FnScope N_is_steady_web ["web"] (defScope s_is_steady_web) := ⟨rfl, rfl, rfl, by decide +kernel, rfl, by decide +kernel, by decide +kernel⟩
def D_is_steady_web : DS :=
  (seqS (asgS 1 (blt lenD (consL (var 0) nilL)))
  (rtS (bin eqD (callP F_with_names (consL (callP F_behind_turn (consL (var 0) (consL (cst (.int 0)) nilL))) (consL (blt tupD (consL (frzE (lcF [2] (rng1 (consL (var 1) nilL)) (.nm 2) yes (bin modD (bin subD (var 2) (cst (.int 1))) (var 1)))) nilL)) nilL))) (var 0))))
def F_is_steady_web : FnP := runP 3 1 D_is_steady_web
theorem b_is_steady_web {cdv : Value} {A : Around} {outer : List Env} {s : Shared} {H : Hp} {E : XK} {f : Addr} (T : Tx K mg) (C_with_names : CalP P w K mg base "with_names" 2 ["web", "order"] F_with_names) (C_behind_turn : CalP P w K mg base "behind_turn" 2 ["web", "x"] F_behind_turn) (hr : Room 2 (A.deeper (envOfC "is_steady_web" (defScope s_is_steady_web) s.heap.objs.size f cdv))) :
    QB (cxOf (L2.CX P w) P w K mg base N_is_steady_web "is_steady_web" (defScope s_is_steady_web) f cdv A outer s H E) (WE0 E) (defBody s_is_steady_web) D_is_steady_web :=
  (b_cons (s_set (ps_set (i := 1) sc_is_steady_web.nd rfl (by first | exact .inl rfl | exact .inr rfl) (q_b bLen T.n_len (by decide +kernel) (a_cons (v_ 0) a_nil))))
  (b_one (s_ret (q_c (cEq hr) (q_p C_with_names hr (by omega) (takes_of rfl rfl rfl rfl) (a_cons (q_p C_behind_turn hr (by omega) (takes_of rfl rfl rfl rfl) (a_cons (v_ 0) (a_cons q_int a_nil))) (a_cons (q_bt bTuple T.n_tuple (by decide +kernel) (a_cons (q_frz (f_lc (own := [("x", 2)]) rfl sc_is_steady_web.nd (i_rng1 (by rfl) T.n_range (a_cons (v_ 1) a_nil)) (blkOk_by (N := N_is_steady_web) (sc := defScope s_is_steady_web) (own := [("x", 2)]) (by decide +kernel)) (by decide) (fun _ _ _ _ _ => (pg_name (i := 2) sc_is_steady_web.nd rfl (by first | exact .inl rfl | exact .inr rfl))) (fun _ _ _ _ _ => ts_nil) (fun _ _ _ _ _ => (q_mod (q_sub (v_ 2) q_int) (v_ 1))))) a_nil)) a_nil))) (v_ 0)))))
theorem ok_is_steady_web {f : Addr} {fd : FuncData} (T : Tx K mg) (C_with_names : CalP P w K mg base "with_names" 2 ["web", "order"] F_with_names) (C_behind_turn : CalP P w K mg base "behind_turn" 2 ["web", "x"] F_behind_turn) (F : FnD K "is_steady_web" s_is_steady_web f fd) (hm : mg "is_steady_web" = some (.ref f)) : CalP P w K mg base "is_steady_web" 3 ["web"] F_is_steady_web :=
  ⟨fn_okP F sc_is_steady_web fun cdv A outer s H E hr => b_is_steady_web T C_with_names C_behind_turn hr, hm, F.kp, F.bindsN (fun _ _ _ _ _ _ us hl => match us, hl with | [_], _ => rfl), runP_len⟩
abbrev s_steady_row : Stmt := top 45
abbrev N_steady_row : List Str := ["web", "shares", "many", "n", "found", "at"]
theorem sc_steady_row : FnScope N_steady_row ["web", "shares", "many"] (defScope s_steady_row) := ⟨rfl, rfl, rfl, by decide +kernel, rfl, by decide +kernel, by decide +kernel⟩
def D_steady_row : DS :=
  (seqS (exS (callP F_need_web (consL (var 0) nilL)))
  (seqS (ifS (notB (asB (callP F_is_steady_web (consL (var 0) nilL)))) (raS "NotSteady") nilS)
  (seqS (exS (callP F_need_shares (consL (blt lenD (consL (var 0) nilL)) (consL (var 1) nilL))))
  (seqS (ifS (notB (asB (callP F_is_from (consL (var 2) (consL (cst (.int 0)) (consL (cst (.int 60)) nilL)))))) (raS "BadTimes") nilS)
  (seqS (parS [3, 4] (consL (blt lenD (consL (var 0) nilL)) (consL (ownE (lstF (var 1))) nilL)))
  (seqS (forS (rng1 (consL (bin subD (var 2) (var 3)) nilL)) (.nm 5) (exS (metE appM (var 4) (consL (ixE (callP F_values_behind (consL (var 0) (consL (tupE (consL (cst (.int 0)) nilL)) (consL (slE (var 4) (someO (var 5)) (someO (bin addD (var 5) (var 3)))) nilL)))) (cst (.int 0))) nilL))))
  (rtS (blt tupD (consL (slE (var 4) noO (someO (var 2))) nilL)))))))))
def F_steady_row : FnP := runP 6 3 D_steady_row
theorem b_steady_row {cdv : Value} {A : Around} {outer : List Env} {s : Shared} {H : Hp} {E : XK} {f : Addr} (T : Tx K mg) (C_need_web : CalP P w K mg base "need_web" 5 ["value"] F_need_web) (C_need_shares : CalP P w K mg base "need_shares" 4 ["n", "value"] F_need_shares) (C_is_steady_web : CalP P w K mg base "is_steady_web" 3 ["web"] F_is_steady_web) (C_is_from : CalP P w K mg base "is_from" 2 ["value", "low", "high"] F_is_from) (C_values_behind : CalP P w K mg base "values_behind" 5 ["web", "row", "shares"] F_values_behind) (hr : Room 5 (A.deeper (envOfC "steady_row" (defScope s_steady_row) s.heap.objs.size f cdv))) :
    QB (cxOf (L2.CX P w) P w K mg base N_steady_row "steady_row" (defScope s_steady_row) f cdv A outer s H E) (WE0 E) (defBody s_steady_row) D_steady_row :=
  (b_cons (s_expr (q_p C_need_web hr (by omega) (takes_of rfl rfl rfl rfl) (a_cons (v_ 0) a_nil)))
  (b_cons (s_if (t_not (t_val (q_p C_is_steady_web hr (by omega) (takes_of rfl rfl rfl rfl) (a_cons (v_ 0) a_nil)))) (b_one (s_ra rfl (takes_of rfl rfl rfl rfl) T.e_NotSteady)) b_nil)
  (b_cons (s_expr (q_p C_need_shares hr (by omega) (takes_of rfl rfl rfl rfl) (a_cons (q_b bLen T.n_len (by decide +kernel) (a_cons (v_ 0) a_nil)) (a_cons (v_ 1) a_nil))))
  (b_cons (s_if (t_not (t_val (q_p C_is_from hr (by omega) (takes_of rfl rfl rfl rfl) (a_cons (v_ 2) (a_cons q_int (a_cons (c_int T.i_MOST_STEPS) a_nil)))))) (b_one (s_ra rfl (takes_of rfl rfl rfl rfl) T.e_BadTimes)) b_nil)
  (b_cons (s_par (ps_par (i := 3) (j := 4) rfl sc_steady_row.nd rfl rfl (by decide) rfl rfl (a_cons (q_b bLen T.n_len (by decide +kernel) (a_cons (v_ 0) a_nil)) (a_cons (q_own (f_list (pe_callTy call_list_of (by rfl) T.n_list (by decide +kernel) (pa_cons (v_ 1) pa_nil)))) a_nil)) (by rfl)))
  (b_cons (s_for (passes_of rfl) rfl (i_rng1 (by rfl) T.n_range (a_cons (q_sub (v_ 2) (v_ 3)) a_nil)) (pg_name (i := 5) sc_steady_row.nd rfl (by first | exact .inl rfl | exact .inr rfl)) (b_one (s_expr (q_met m_app (pe_bm PySem.F.plainAttrs_list PySem.F.slot_list_append PySem.F.type_list_append mt_append (v_ 4) (a_cons (q_ix (q_p C_values_behind hr (by omega) (takes_of rfl rfl rfl rfl) (a_cons (v_ 0) (a_cons (q_tup (a_cons q_int a_nil)) (a_cons (q_sl (v_ 4) (o_some (v_ 5)) (o_some (q_add (v_ 5) (v_ 3)))) a_nil)))) q_int (fun _ _ => rfl)) a_nil))))))
  (b_one (s_ret (q_bt bTuple T.n_tuple (by decide +kernel) (a_cons (q_sl (v_ 4) o_none (o_some (v_ 2))) a_nil))))))))))
theorem ok_steady_row {f : Addr} {fd : FuncData} (T : Tx K mg) (C_need_web : CalP P w K mg base "need_web" 5 ["value"] F_need_web) (C_need_shares : CalP P w K mg base "need_shares" 4 ["n", "value"] F_need_shares) (C_is_steady_web : CalP P w K mg base "is_steady_web" 3 ["web"] F_is_steady_web) (C_is_from : CalP P w K mg base "is_from" 2 ["value", "low", "high"] F_is_from) (C_values_behind : CalP P w K mg base "values_behind" 5 ["web", "row", "shares"] F_values_behind) (F : FnD K "steady_row" s_steady_row f fd) (hm : mg "steady_row" = some (.ref f)) : CalP P w K mg base "steady_row" 6 ["web", "shares", "many"] F_steady_row :=
  ⟨fn_okP F sc_steady_row fun cdv A outer s H E hr => b_steady_row T C_need_web C_need_shares C_is_steady_web C_is_from C_values_behind hr, hm, F.kp, F.bindsN (fun _ _ _ _ _ _ us hl => match us, hl with | [_, _, _], _ => rfl), runP_len⟩
abbrev s__law_steady : Stmt := top 58
abbrev N__law_steady : List Str := ["_law_row", "_law_n", "_law_line", "_law_at", "_law_table", "_law_z", "_law_y", "_law_x", "_law_through", "_law_one"]
theorem sc__law_steady : FnScope N__law_steady ["_law_row", "_law_n"] (defScope s__law_steady) := ⟨rfl, rfl, rfl, by decide +kernel, rfl, by decide +kernel, by decide +kernel⟩
def D__law_steady : DS :=
  (seqS (asgS 2 (ownE (repF (frzE (szF (consL (cst (.int 0)) nilL))) (var 1))))
  (seqS (forS (rng2 (consL (cst (.int 1)) (consL (bin addD (bin divD (var 1) (cst (.int 2))) (cst (.int 1))) nilL))) (.nm 3) (seqS (putS (callR F__law_pick (var 0) (consL (frzE (szF (consL (cst (.int 0)) (consL (cst (.int 1)) (consL (cst (.int 1)) (consL (bin subD (cst (.int 0)) (cst (.int 1))) (consL (bin subD (cst (.int 0)) (cst (.int 2))) (consL (cst (.int 2)) nilL)))))))) nilL)) (var 2) (var 3))
  (putS (ixE (var 2) (var 3)) (var 2) (bin subD (var 1) (var 3)))))
  (seqS (asgS 4 (ownE (lcF [7] (rng1 (consL (var 1) nilL)) (.nm 7) yes (ownE (repF (frzE (szF (consL (cst (.int 0)) nilL))) (var 1))))))
  (seqS (forS (rng2 (consL (cst (.int 1)) (consL (var 1) nilL))) (.nm 5) (put2S (tupE (consL (ixE (var 2) (var 5)) (consL (bin subD (cst (.int 0)) (ixE (var 2) (var 5))) nilL))) (ixE (var 4) (cst (.int 0))) (var 5) (ixE (var 4) (var 5)) (cst (.int 0))))
  (seqS (forS (rng2 (consL (cst (.int 1)) (consL (var 1) nilL))) (.nm 6) (forS (rng2 (consL (bin addD (var 6) (cst (.int 1))) (consL (var 1) nilL))) (.nm 5) (seqS (asgS 8 (cst (.int 0)))
  (seqS (ifS (andB (asB (bin gtI (ixE (ixE (var 4) (var 6)) (cst (.int 0))) (cst (.int 0)))) (asB (bin gtI (ixE (ixE (var 4) (cst (.int 0))) (var 5)) (cst (.int 0))))) (asgS 8 (bin mulD (ixE (ixE (var 4) (var 6)) (cst (.int 0))) (ixE (ixE (var 4) (cst (.int 0))) (var 5)))) nilS)
  (seqS (ifS (andB (asB (bin ltI (ixE (ixE (var 4) (var 6)) (cst (.int 0))) (cst (.int 0)))) (asB (bin ltI (ixE (ixE (var 4) (cst (.int 0))) (var 5)) (cst (.int 0))))) (asgS 8 (bin subD (cst (.int 0)) (bin mulD (ixE (ixE (var 4) (var 6)) (cst (.int 0))) (ixE (ixE (var 4) (cst (.int 0))) (var 5))))) nilS)
  (seqS (putS (bin subD (ixE (ixE (var 4) (bin subD (var 6) (cst (.int 1)))) (bin subD (var 5) (cst (.int 1)))) (var 8)) (ixE (var 4) (var 6)) (var 5))
  (putS (bin subD (cst (.int 0)) (ixE (ixE (var 4) (var 6)) (var 5))) (ixE (var 4) (var 5)) (var 6))))))))
  (rtS (blt tupD (consL (frzE (lcF [9] (seqI (var 4)) (.nm 9) yes (blt tupD (consL (var 9) nilL)))) nilL))))))))
def F__law_steady : FnR := runR 10 2 D__law_steady
theorem b__law_steady {cdv : Value} {A : Around} {outer : List Env} {s : Shared} {H : Hp} {E : XK} {f : Addr} (T : Tx K mg) (C__law_pick : CalR P w K mg base "_law_pick" 2 ["_law_row", "_law_things"] F__law_pick) (hr : Room 2 (A.deeper (envOfC "_law_steady" (defScope s__law_steady) s.heap.objs.size f cdv))) :
    QB (cxOf (L2.CX P w) P w K mg base N__law_steady "_law_steady" (defScope s__law_steady) f cdv A outer s H E) (WE0 E) (defBody s__law_steady) D__law_steady :=
  (b_cons (s_set (ps_set (i := 2) sc__law_steady.nd rfl (by first | exact .inl rfl | exact .inr rfl) (q_own (f_rep (q_frz (f_lst (a_cons q_int a_nil))) (v_ 1)))))
  (b_cons (s_for (passes_of rfl) rfl (i_rng2 (by rfl) T.n_range (a_cons q_int (a_cons (q_add (q_div (v_ 1) q_int) q_int) a_nil))) (pg_name (i := 3) sc__law_steady.nd rfl (by first | exact .inl rfl | exact .inr rfl)) (b_cons (s_put (ps_asg (q_r C__law_pick hr (by omega) (takes_of rfl rfl rfl rfl) (v_ 0) (a_cons (q_frz (f_lst (a_cons q_int (a_cons q_int (a_cons q_int (a_cons (q_sub q_int q_int) (a_cons (q_sub q_int q_int) (a_cons q_int a_nil)))))))) a_nil)) (pg_sub (v_ 2) (v_ 3) set_list)))
  (b_one (s_put (ps_asg (q_ix (v_ 2) (v_ 3) (fun _ _ => rfl)) (pg_sub (v_ 2) (q_sub (v_ 1) (v_ 3)) set_list))))))
  (b_cons (s_setLc Keeps.own (own := [("_law_x", 7)]) rfl sc__law_steady.nd rfl rfl (sw_true rfl rfl rfl (by decide +kernel)) (i_rng1 (by rfl) T.n_range (a_cons (v_ 1) a_nil)) (blkOk_by (N := N__law_steady) (sc := defScope s__law_steady) (own := [("_law_x", 7)]) (by decide +kernel)) (by decide) (fun _ _ _ _ _ => (pg_name (i := 7) sc__law_steady.nd rfl (by first | exact .inl rfl | exact .inr rfl))) (fun _ _ _ _ _ => ts_nil) (fun _ _ _ _ _ => (q_own (f_rep (q_frz (f_lst (a_cons q_int a_nil))) (v_ 1)))))
  (b_cons (s_for (passes_of rfl) rfl (i_rng2 (by rfl) T.n_range (a_cons q_int (a_cons (v_ 1) a_nil))) (pg_name (i := 5) sc__law_steady.nd rfl (by first | exact .inl rfl | exact .inr rfl)) (b_one (s_put2 (ps_asg (q_tup (a_cons (q_ix (v_ 2) (v_ 5) (fun _ _ => rfl)) (a_cons (q_sub q_int (q_ix (v_ 2) (v_ 5) (fun _ _ => rfl))) a_nil))) (pg_tup rfl (pgs_cons (pg_sub (q_ix (v_ 4) q_int (fun _ _ => rfl)) (v_ 5) set_list) (pgs_cons (pg_sub (q_ix (v_ 4) (v_ 5) (fun _ _ => rfl)) q_int set_list) pgs_nil)))))))
  (b_cons (s_for (passes_of rfl) rfl (i_rng2 (by rfl) T.n_range (a_cons q_int (a_cons (v_ 1) a_nil))) (pg_name (i := 6) sc__law_steady.nd rfl (by first | exact .inl rfl | exact .inr rfl)) (b_one (s_for (passes_of rfl) rfl (i_rng2 (by rfl) T.n_range (a_cons (q_add (v_ 6) q_int) (a_cons (v_ 1) a_nil))) (pg_name (i := 5) sc__law_steady.nd rfl (by first | exact .inl rfl | exact .inr rfl)) (b_cons (s_set (ps_set (i := 8) sc__law_steady.nd rfl (by first | exact .inl rfl | exact .inr rfl) q_int))
  (b_cons (s_if (t_bool (w_and (t_c (cGt) (q_ix (q_ix (v_ 4) (v_ 6) (fun _ _ => rfl)) q_int (fun _ _ => rfl)) q_int) (w_and1 (t_c (cGt) (q_ix (q_ix (v_ 4) q_int (fun _ _ => rfl)) (v_ 5) (fun _ _ => rfl)) q_int)))) (b_one (s_set (ps_set (i := 8) sc__law_steady.nd rfl (by first | exact .inl rfl | exact .inr rfl) (q_mul (q_ix (q_ix (v_ 4) (v_ 6) (fun _ _ => rfl)) q_int (fun _ _ => rfl)) (q_ix (q_ix (v_ 4) q_int (fun _ _ => rfl)) (v_ 5) (fun _ _ => rfl)))))) b_nil)
  (b_cons (s_if (t_bool (w_and (t_c (cLt) (q_ix (q_ix (v_ 4) (v_ 6) (fun _ _ => rfl)) q_int (fun _ _ => rfl)) q_int) (w_and1 (t_c (cLt) (q_ix (q_ix (v_ 4) q_int (fun _ _ => rfl)) (v_ 5) (fun _ _ => rfl)) q_int)))) (b_one (s_set (ps_set (i := 8) sc__law_steady.nd rfl (by first | exact .inl rfl | exact .inr rfl) (q_sub q_int (q_mul (q_ix (q_ix (v_ 4) (v_ 6) (fun _ _ => rfl)) q_int (fun _ _ => rfl)) (q_ix (q_ix (v_ 4) q_int (fun _ _ => rfl)) (v_ 5) (fun _ _ => rfl))))))) b_nil)
  (b_cons (s_put (ps_asg (q_sub (q_ix (q_ix (v_ 4) (q_sub (v_ 6) q_int) (fun _ _ => rfl)) (q_sub (v_ 5) q_int) (fun _ _ => rfl)) (v_ 8)) (pg_sub (q_ix (v_ 4) (v_ 6) (fun _ _ => rfl)) (v_ 5) set_list)))
  (b_one (s_put (ps_asg (q_sub q_int (q_ix (q_ix (v_ 4) (v_ 6) (fun _ _ => rfl)) (v_ 5) (fun _ _ => rfl))) (pg_sub (q_ix (v_ 4) (v_ 5) (fun _ _ => rfl)) (v_ 6) set_list)))))))))))
  (b_one (s_ret (q_bt bTuple T.n_tuple (by decide +kernel) (a_cons (q_frz (f_lc (own := [("_law_one", 9)]) rfl sc__law_steady.nd (i_seq (v_ 4)) (blkOk_by (N := N__law_steady) (sc := defScope s__law_steady) (own := [("_law_one", 9)]) (by decide +kernel)) (by decide) (fun _ _ _ _ _ => (pg_name (i := 9) sc__law_steady.nd rfl (by first | exact .inl rfl | exact .inr rfl))) (fun _ _ _ _ _ => ts_nil) (fun _ _ _ _ _ => (q_bt bTuple T.n_tuple (by decide +kernel) (a_cons (v_ 9) a_nil))))) a_nil)))))))))
theorem ok__law_steady {f : Addr} {fd : FuncData} (T : Tx K mg) (C__law_pick : CalR P w K mg base "_law_pick" 2 ["_law_row", "_law_things"] F__law_pick) (F : FnD K "_law_steady" s__law_steady f fd) (hm : mg "_law_steady" = some (.ref f)) : CalR P w K mg base "_law_steady" 3 ["_law_row", "_law_n"] F__law_steady :=
  ⟨fn_okR F sc__law_steady fun cdv A outer s H E hr => b__law_steady T C__law_pick hr, hm, F.kp, F.bindsN (fun _ _ _ _ _ _ us hl => match us, hl with | [_, _], _ => rfl), runR_len⟩
abbrev s__law_web : Stmt := top 50
abbrev N__law_web : List Str := ["_law_row", "_law_most", "_law_strong", "_law_n", "_law_way", "_law_table", "_law_z", "_law_y", "_law_x", "_law_many", "_law_line"]
theorem sc__law_web : FnScope N__law_web ["_law_row", "_law_most", "_law_strong"] (defScope s__law_web) := ⟨rfl, rfl, rfl, by decide +kernel, rfl, by decide +kernel, by decide +kernel⟩
def D__law_web : DS :=
  (seqS (parS [3, 4] (consL (bin addD (cst (.int 1)) (callR F__law_taken (var 0) (consL (var 1) nilL))) (consL (callR F__law_taken (var 0) (consL (cst (.int 5)) nilL)) nilL)))
  (seqS (asgS 5 (ownE (lcF [8] (rng1 (consL (var 3) nilL)) (.nm 8) yes (ownE (repF (frzE (szF (consL (cst (.int 0)) nilL))) (var 3))))))
  (seqS (forS (rng2 (consL (cst (.int 1)) (consL (var 3) nilL))) (.nm 6) (forS (rng1 (consL (var 6) nilL)) (.nm 7) (seqS (asgS 9 (cst (.int 0)))
  (seqS (ifS (asB (bin ltI (var 4) (cst (.int 2)))) (asgS 9 (bin mulD (callR F__law_pick (var 0) (consL (frzE (szF (consL (cst (.int 0)) (consL (cst (.int 0)) (consL (cst (.int 1)) (consL (bin subD (cst (.int 0)) (cst (.int 1))) nilL)))))) nilL)) (bin addD (cst (.int 1)) (callR F__law_taken (var 0) (consL (var 2) nilL))))) (ifS (asB (bin eqD (var 4) (cst (.int 2)))) (asgS 9 (bin mulD (callR F__law_pick (var 0) (consL (frzE (szF (consL (cst (.int 1)) (consL (bin subD (cst (.int 0)) (cst (.int 1))) nilL)))) nilL)) (blt intD (consL (bin eqD (var 7) (bin subD (var 6) (cst (.int 1)))) nilL)))) (ifS (asB (bin eqD (var 4) (cst (.int 3)))) (asgS 9 (bin subD (blt intD (consL (bin eqD (var 7) (bin subD (var 6) (cst (.int 1)))) nilL)) (blt intD (consL (andV (bin eqD (var 7) (cst (.int 0))) (andV (bin eqD (var 6) (bin subD (var 3) (cst (.int 1)))) (bin gtI (var 3) (cst (.int 2))))) nilL)))) nilS)))
  (put2S (tupE (consL (var 9) (consL (bin subD (cst (.int 0)) (var 9)) nilL))) (ixE (var 5) (var 7)) (var 6) (ixE (var 5) (var 6)) (var 7))))))
  (seqS (ifS (asB (bin eqD (var 4) (cst (.int 4)))) (forS (rng2 (consL (cst (.int 1)) (consL (var 3) nilL))) (.nm 6) (seqS (parS [7, 9] (consL (callR F__law_taken (var 0) (consL (var 6) nilL)) (consL (callR F__law_pick (var 0) (consL (frzE (szF (consL (cst (.int 1)) (consL (bin subD (cst (.int 0)) (cst (.int 1))) nilL)))) nilL)) nilL)))
  (put2S (tupE (consL (var 9) (consL (bin subD (cst (.int 0)) (var 9)) nilL))) (ixE (var 5) (var 7)) (var 6) (ixE (var 5) (var 6)) (var 7)))) nilS)
  (rtS (blt tupD (consL (frzE (lcF [10] (seqI (var 5)) (.nm 10) yes (blt tupD (consL (var 10) nilL)))) nilL)))))))
def F__law_web : FnR := runR 11 3 D__law_web
theorem b__law_web {cdv : Value} {A : Around} {outer : List Env} {s : Shared} {H : Hp} {E : XK} {f : Addr} (T : Tx K mg) (C__law_taken : CalR P w K mg base "_law_taken" 1 ["_law_row", "_law_many"] F__law_taken) (C__law_pick : CalR P w K mg base "_law_pick" 2 ["_law_row", "_law_things"] F__law_pick) (hr : Room 2 (A.deeper (envOfC "_law_web" (defScope s__law_web) s.heap.objs.size f cdv))) :
    QB (cxOf (L2.CX P w) P w K mg base N__law_web "_law_web" (defScope s__law_web) f cdv A outer s H E) (WE0 E) (defBody s__law_web) D__law_web :=
  (b_cons (s_parT (is := [3, 4]) (ps_asg (pe_tup (a_cons (q_add q_int (q_r C__law_taken hr (by omega) (takes_of rfl rfl rfl rfl) (v_ 0) (a_cons (v_ 1) a_nil))) (a_cons (q_r C__law_taken hr (by omega) (takes_of rfl rfl rfl rfl) (v_ 0) (a_cons q_int a_nil)) a_nil))) (pg_tup rfl (pgs_cons (pg_name (i := 3) sc__law_web.nd rfl (by first | exact .inl rfl | exact .inr rfl)) (pgs_cons (pg_name (i := 4) sc__law_web.nd rfl (by first | exact .inl rfl | exact .inr rfl)) pgs_nil)))))
  (b_cons (s_setLc Keeps.own (own := [("_law_x", 8)]) rfl sc__law_web.nd rfl rfl (sw_true rfl rfl rfl (by decide +kernel)) (i_rng1 (by rfl) T.n_range (a_cons (v_ 3) a_nil)) (blkOk_by (N := N__law_web) (sc := defScope s__law_web) (own := [("_law_x", 8)]) (by decide +kernel)) (by decide) (fun _ _ _ _ _ => (pg_name (i := 8) sc__law_web.nd rfl (by first | exact .inl rfl | exact .inr rfl))) (fun _ _ _ _ _ => ts_nil) (fun _ _ _ _ _ => (q_own (f_rep (q_frz (f_lst (a_cons q_int a_nil))) (v_ 3)))))
  (b_cons (s_for (passes_of rfl) rfl (i_rng2 (by rfl) T.n_range (a_cons q_int (a_cons (v_ 3) a_nil))) (pg_name (i := 6) sc__law_web.nd rfl (by first | exact .inl rfl | exact .inr rfl)) (b_one (s_for (passes_of rfl) rfl (i_rng1 (by rfl) T.n_range (a_cons (v_ 6) a_nil)) (pg_name (i := 7) sc__law_web.nd rfl (by first | exact .inl rfl | exact .inr rfl)) (b_cons (s_set (ps_set (i := 9) sc__law_web.nd rfl (by first | exact .inl rfl | exact .inr rfl) q_int))
  (b_cons (s_if (t_c (cLt) (v_ 4) q_int) (b_one (s_set (ps_set (i := 9) sc__law_web.nd rfl (by first | exact .inl rfl | exact .inr rfl) (q_mul (q_r C__law_pick hr (by omega) (takes_of rfl rfl rfl rfl) (v_ 0) (a_cons (q_frz (f_lst (a_cons q_int (a_cons q_int (a_cons q_int (a_cons (q_sub q_int q_int) a_nil)))))) a_nil)) (q_add q_int (q_r C__law_taken hr (by omega) (takes_of rfl rfl rfl rfl) (v_ 0) (a_cons (v_ 2) a_nil))))))) (b_one (s_if (t_c (cEq hr) (v_ 4) q_int) (b_one (s_set (ps_set (i := 9) sc__law_web.nd rfl (by first | exact .inl rfl | exact .inr rfl) (q_mul (q_r C__law_pick hr (by omega) (takes_of rfl rfl rfl rfl) (v_ 0) (a_cons (q_frz (f_lst (a_cons q_int (a_cons (q_sub q_int q_int) a_nil)))) a_nil)) (q_bt bInt T.n_int (by decide +kernel) (a_cons (q_c (cEq hr) (v_ 7) (q_sub (v_ 6) q_int)) a_nil)))))) (b_one (s_if (t_c (cEq hr) (v_ 4) q_int) (b_one (s_set (ps_set (i := 9) sc__law_web.nd rfl (by first | exact .inl rfl | exact .inr rfl) (q_sub (q_bt bInt T.n_int (by decide +kernel) (a_cons (q_c (cEq hr) (v_ 7) (q_sub (v_ 6) q_int)) a_nil)) (q_bt bInt T.n_int (by decide +kernel) (a_cons (q_and (q_c (cEq hr) (v_ 7) q_int) (q_and (q_c (cEq hr) (v_ 6) (q_sub (v_ 3) q_int)) (q_one (q_c (cGt) (v_ 3) q_int)))) a_nil)))))) b_nil)))))
  (b_one (s_put2 (ps_asg (q_tup (a_cons (v_ 9) (a_cons (q_sub q_int (v_ 9)) a_nil))) (pg_tup rfl (pgs_cons (pg_sub (q_ix (v_ 5) (v_ 7) (fun _ _ => rfl)) (v_ 6) set_list) (pgs_cons (pg_sub (q_ix (v_ 5) (v_ 6) (fun _ _ => rfl)) (v_ 7) set_list) pgs_nil)))))))))))
  (b_cons (s_if (t_c (cEq hr) (v_ 4) q_int) (b_one (s_for (passes_of rfl) rfl (i_rng2 (by rfl) T.n_range (a_cons q_int (a_cons (v_ 3) a_nil))) (pg_name (i := 6) sc__law_web.nd rfl (by first | exact .inl rfl | exact .inr rfl)) (b_cons (s_par (ps_par (i := 7) (j := 9) rfl sc__law_web.nd rfl rfl (by decide) rfl rfl (a_cons (q_r C__law_taken hr (by omega) (takes_of rfl rfl rfl rfl) (v_ 0) (a_cons (v_ 6) a_nil)) (a_cons (q_r C__law_pick hr (by omega) (takes_of rfl rfl rfl rfl) (v_ 0) (a_cons (q_frz (f_lst (a_cons q_int (a_cons (q_sub q_int q_int) a_nil)))) a_nil)) a_nil)) (by rfl)))
  (b_one (s_put2 (ps_asg (q_tup (a_cons (v_ 9) (a_cons (q_sub q_int (v_ 9)) a_nil))) (pg_tup rfl (pgs_cons (pg_sub (q_ix (v_ 5) (v_ 7) (fun _ _ => rfl)) (v_ 6) set_list) (pgs_cons (pg_sub (q_ix (v_ 5) (v_ 6) (fun _ _ => rfl)) (v_ 7) set_list) pgs_nil))))))))) b_nil)
  (b_one (s_ret (q_bt bTuple T.n_tuple (by decide +kernel) (a_cons (q_frz (f_lc (own := [("_law_line", 10)]) rfl sc__law_web.nd (i_seq (v_ 5)) (blkOk_by (N := N__law_web) (sc := defScope s__law_web) (own := [("_law_line", 10)]) (by decide +kernel)) (by decide) (fun _ _ _ _ _ => (pg_name (i := 10) sc__law_web.nd rfl (by first | exact .inl rfl | exact .inr rfl))) (fun _ _ _ _ _ => ts_nil) (fun _ _ _ _ _ => (q_bt bTuple T.n_tuple (by decide +kernel) (a_cons (v_ 10) a_nil))))) a_nil))))))))
theorem ok__law_web {f : Addr} {fd : FuncData} (T : Tx K mg) (C__law_taken : CalR P w K mg base "_law_taken" 1 ["_law_row", "_law_many"] F__law_taken) (C__law_pick : CalR P w K mg base "_law_pick" 2 ["_law_row", "_law_things"] F__law_pick) (F : FnD K "_law_web" s__law_web f fd) (hm : mg "_law_web" = some (.ref f)) : CalR P w K mg base "_law_web" 3 ["_law_row", "_law_most", "_law_strong"] F__law_web :=
  ⟨fn_okR F sc__law_web fun cdv A outer s H E hr => b__law_web T C__law_taken C__law_pick hr, hm, F.kp, F.bindsN (fun _ _ _ _ _ _ us hl => match us, hl with | [_, _, _], _ => rfl), runR_len⟩
abbrev s_is_steady : Stmt := top 44
abbrev N_is_steady : List Str := ["web"]
theorem sc_is_steady : FnScope N_is_steady ["web"] (defScope s_is_steady) := ⟨rfl, rfl, rfl, by decide +kernel, rfl, by decide +kernel, by decide +kernel⟩
def D_is_steady : DS :=
  (seqS (exS (callP F_need_web (consL (var 0) nilL)))
  (rtS (callP F_is_steady_web (consL (var 0) nilL))))
def F_is_steady : FnP := runP 1 1 D_is_steady
theorem b_is_steady {cdv : Value} {A : Around} {outer : List Env} {s : Shared} {H : Hp} {E : XK} {f : Addr} (T : Tx K mg) (C_need_web : CalP P w K mg base "need_web" 5 ["value"] F_need_web) (C_is_steady_web : CalP P w K mg base "is_steady_web" 3 ["web"] F_is_steady_web) (hr : Room 5 (A.deeper (envOfC "is_steady" (defScope s_is_steady) s.heap.objs.size f cdv))) :
    QB (cxOf (L2.CX P w) P w K mg base N_is_steady "is_steady" (defScope s_is_steady) f cdv A outer s H E) (WE0 E) (defBody s_is_steady) D_is_steady :=
  (b_cons (s_expr (q_p C_need_web hr (by omega) (takes_of rfl rfl rfl rfl) (a_cons (v_ 0) a_nil)))
  (b_one (s_ret (q_p C_is_steady_web hr (by omega) (takes_of rfl rfl rfl rfl) (a_cons (v_ 0) a_nil)))))
theorem ok_is_steady {f : Addr} {fd : FuncData} (T : Tx K mg) (C_need_web : CalP P w K mg base "need_web" 5 ["value"] F_need_web) (C_is_steady_web : CalP P w K mg base "is_steady_web" 3 ["web"] F_is_steady_web) (F : FnD K "is_steady" s_is_steady f fd) (hm : mg "is_steady" = some (.ref f)) : CalP P w K mg base "is_steady" 6 ["web"] F_is_steady :=
  ⟨fn_okP F sc_is_steady fun cdv A outer s H E hr => b_is_steady T C_need_web C_is_steady_web hr, hm, F.kp, F.bindsN (fun _ _ _ _ _ _ us hl => match us, hl with | [_], _ => rfl), runP_len⟩
abbrev s__law_times : Stmt := top 54
abbrev N__law_times : List Str := ["_law_one", "_law_other"]
theorem sc__law_times : FnScope N__law_times ["_law_one", "_law_other"] (defScope s__law_times) := ⟨rfl, rfl, rfl, by decide +kernel, rfl, by decide +kernel, by decide +kernel⟩
def D__law_times : DS :=
  (rtS (callP F__law_share (consL (bin mulD (ixE (var 0) (cst (.int 0))) (ixE (var 1) (cst (.int 0)))) (consL (bin mulD (ixE (var 0) (cst (.int 1))) (ixE (var 1) (cst (.int 1)))) nilL))))
def F__law_times : FnP := runP 2 2 D__law_times
theorem b__law_times {cdv : Value} {A : Around} {outer : List Env} {s : Shared} {H : Hp} {E : XK} {f : Addr} (T : Tx K mg) (C__law_share : CalP P w K mg base "_law_share" 1 ["_law_top", "_law_bottom"] F__law_share) (hr : Room 1 (A.deeper (envOfC "_law_times" (defScope s__law_times) s.heap.objs.size f cdv))) :
    QB (cxOf (L2.CX P w) P w K mg base N__law_times "_law_times" (defScope s__law_times) f cdv A outer s H E) (WE0 E) (defBody s__law_times) D__law_times :=
  (b_one (s_ret (q_p C__law_share hr (by omega) (takes_of rfl rfl rfl rfl) (a_cons (q_mul (q_ix (v_ 0) q_int (fun _ _ => rfl)) (q_ix (v_ 1) q_int (fun _ _ => rfl))) (a_cons (q_mul (q_ix (v_ 0) q_int (fun _ _ => rfl)) (q_ix (v_ 1) q_int (fun _ _ => rfl))) a_nil)))))
theorem ok__law_times {f : Addr} {fd : FuncData} (T : Tx K mg) (C__law_share : CalP P w K mg base "_law_share" 1 ["_law_top", "_law_bottom"] F__law_share) (F : FnD K "_law_times" s__law_times f fd) (hm : mg "_law_times" = some (.ref f)) : CalP P w K mg base "_law_times" 2 ["_law_one", "_law_other"] F__law_times :=
  ⟨fn_okP F sc__law_times fun cdv A outer s H E hr => b__law_times T C__law_share hr, hm, F.kp, F.bindsN (fun _ _ _ _ _ _ us hl => match us, hl with | [_, _], _ => rfl), runP_len⟩
abbrev s__law_plus : Stmt := top 55
abbrev N__law_plus : List Str := ["_law_one", "_law_other"]
theorem sc__law_plus : FnScope N__law_plus ["_law_one", "_law_other"] (defScope s__law_plus) := ⟨rfl, rfl, rfl, by decide +kernel, rfl, by decide +kernel, by decide +kernel⟩
def D__law_plus : DS :=
  (rtS (callP F__law_share (consL (bin addD (bin mulD (ixE (var 0) (cst (.int 0))) (ixE (var 1) (cst (.int 1)))) (bin mulD (ixE (var 1) (cst (.int 0))) (ixE (var 0) (cst (.int 1))))) (consL (bin mulD (ixE (var 0) (cst (.int 1))) (ixE (var 1) (cst (.int 1)))) nilL))))
def F__law_plus : FnP := runP 2 2 D__law_plus
theorem b__law_plus {cdv : Value} {A : Around} {outer : List Env} {s : Shared} {H : Hp} {E : XK} {f : Addr} (T : Tx K mg) (C__law_share : CalP P w K mg base "_law_share" 1 ["_law_top", "_law_bottom"] F__law_share) (hr : Room 1 (A.deeper (envOfC "_law_plus" (defScope s__law_plus) s.heap.objs.size f cdv))) :
    QB (cxOf (L2.CX P w) P w K mg base N__law_plus "_law_plus" (defScope s__law_plus) f cdv A outer s H E) (WE0 E) (defBody s__law_plus) D__law_plus :=
  (b_one (s_ret (q_p C__law_share hr (by omega) (takes_of rfl rfl rfl rfl) (a_cons (q_add (q_mul (q_ix (v_ 0) q_int (fun _ _ => rfl)) (q_ix (v_ 1) q_int (fun _ _ => rfl))) (q_mul (q_ix (v_ 1) q_int (fun _ _ => rfl)) (q_ix (v_ 0) q_int (fun _ _ => rfl)))) (a_cons (q_mul (q_ix (v_ 0) q_int (fun _ _ => rfl)) (q_ix (v_ 1) q_int (fun _ _ => rfl))) a_nil)))))
theorem ok__law_plus {f : Addr} {fd : FuncData} (T : Tx K mg) (C__law_share : CalP P w K mg base "_law_share" 1 ["_law_top", "_law_bottom"] F__law_share) (F : FnD K "_law_plus" s__law_plus f fd) (hm : mg "_law_plus" = some (.ref f)) : CalP P w K mg base "_law_plus" 2 ["_law_one", "_law_other"] F__law_plus :=
  ⟨fn_okP F sc__law_plus fun cdv A outer s H E hr => b__law_plus T C__law_share hr, hm, F.kp, F.bindsN (fun _ _ _ _ _ _ us hl => match us, hl with | [_, _], _ => rfl), runP_len⟩
abbrev s__law_values : Stmt := top 57
abbrev N__law_values : List Str := ["_law_web_here", "_law_told", "_law_starts_here", "_law_found", "_law_x", "_law_into", "_law_out", "_law_y", "_law_turn_here"]
theorem sc__law_values : FnScope N__law_values ["_law_web_here", "_law_told", "_law_starts_here"] (defScope s__law_values) := ⟨rfl, rfl, rfl, by decide +kernel, rfl, by decide +kernel, by decide +kernel⟩
def D__law_values : DS :=
  (seqS (asgS 3 (ownE (lstF (var 2))))
  (seqS (forS (seqI (var 1)) (.nm 4) (seqS (parS [5, 6] (consL (tupE (consL (cst (.int 1)) (consL (cst (.int 1)) nilL))) (consL (tupE (consL (cst (.int 1)) (consL (cst (.int 1)) nilL))) nilL)))
  (seqS (forS (rng1 (consL (blt lenD (consL (var 0) nilL)) nilL)) (.nm 7) (forS (rng1 (consL (blt absD (consL (ixE (ixE (var 0) (var 7)) (var 4)) nilL)) nilL)) (.nm 8) (seqS (asgS 5 (ifE (asB (bin gtI (ixE (ixE (var 0) (var 7)) (var 4)) (cst (.int 0)))) (callP F__law_times (consL (var 5) (consL (ixE (var 3) (var 7)) nilL))) (var 5)))
  (asgS 6 (ifE (asB (bin ltI (ixE (ixE (var 0) (var 7)) (var 4)) (cst (.int 0)))) (callP F__law_times (consL (var 6) (consL (ixE (var 3) (var 7)) nilL))) (var 6))))))
  (seqS (putS (callP F__law_times (consL (callP F__law_plus (consL (var 5) (consL (var 6) nilL))) (consL (tupE (consL (ixE (ixE (var 3) (var 4)) (cst (.int 1))) (consL (ixE (ixE (var 3) (var 4)) (cst (.int 0))) nilL))) nilL))) (var 3) (var 4))
  (asgS 0 (callP F__law_turn (consL (var 0) (consL (var 4) nilL))))))))
  (rtS (var 3))))
def F__law_values : FnP := runP 9 3 D__law_values
theorem b__law_values {cdv : Value} {A : Around} {outer : List Env} {s : Shared} {H : Hp} {E : XK} {f : Addr} (T : Tx K mg) (C__law_times : CalP P w K mg base "_law_times" 2 ["_law_one", "_law_other"] F__law_times) (C__law_turn : CalP P w K mg base "_law_turn" 1 ["_law_web_here", "_law_x"] F__law_turn) (C__law_plus : CalP P w K mg base "_law_plus" 2 ["_law_one", "_law_other"] F__law_plus) (hr : Room 2 (A.deeper (envOfC "_law_values" (defScope s__law_values) s.heap.objs.size f cdv))) :
    QB (cxOf (L2.CX P w) P w K mg base N__law_values "_law_values" (defScope s__law_values) f cdv A outer s H E) (WE0 E) (defBody s__law_values) D__law_values :=
  (b_cons (s_set (ps_set (i := 3) sc__law_values.nd rfl (by first | exact .inl rfl | exact .inr rfl) (q_own (f_list (pe_callTy call_list_of (by rfl) T.n_list (by decide +kernel) (pa_cons (v_ 2) pa_nil))))))
  (b_cons (s_for (passes_of rfl) rfl (i_seq (v_ 1)) (pg_name (i := 4) sc__law_values.nd rfl (by first | exact .inl rfl | exact .inr rfl)) (b_cons (s_parT (is := [5, 6]) (ps_asg (pe_tup (a_cons (q_tup (a_cons q_int (a_cons q_int a_nil))) (a_cons (q_tup (a_cons q_int (a_cons q_int a_nil))) a_nil))) (pg_tup rfl (pgs_cons (pg_name (i := 5) sc__law_values.nd rfl (by first | exact .inl rfl | exact .inr rfl)) (pgs_cons (pg_name (i := 6) sc__law_values.nd rfl (by first | exact .inl rfl | exact .inr rfl)) pgs_nil)))))
  (b_cons (s_for (passes_of rfl) rfl (i_rng1 (by rfl) T.n_range (a_cons (q_b bLen T.n_len (by decide +kernel) (a_cons (v_ 0) a_nil)) a_nil)) (pg_name (i := 7) sc__law_values.nd rfl (by first | exact .inl rfl | exact .inr rfl)) (b_one (s_for (passes_of rfl) rfl (i_rng1 (by rfl) T.n_range (a_cons (q_b bAbs T.n_abs (by decide +kernel) (a_cons (q_ix (q_ix (v_ 0) (v_ 7) (fun _ _ => rfl)) (v_ 4) (fun _ _ => rfl)) a_nil)) a_nil)) (pg_name (i := 8) sc__law_values.nd rfl (by first | exact .inl rfl | exact .inr rfl)) (b_cons (s_set (ps_set (i := 5) sc__law_values.nd rfl (by first | exact .inl rfl | exact .inr rfl) (q_if (t_c (cGt) (q_ix (q_ix (v_ 0) (v_ 7) (fun _ _ => rfl)) (v_ 4) (fun _ _ => rfl)) q_int) (q_p C__law_times hr (by omega) (takes_of rfl rfl rfl rfl) (a_cons (v_ 5) (a_cons (q_ix (v_ 3) (v_ 7) (fun _ _ => rfl)) a_nil))) (v_ 5))))
  (b_one (s_set (ps_set (i := 6) sc__law_values.nd rfl (by first | exact .inl rfl | exact .inr rfl) (q_if (t_c (cLt) (q_ix (q_ix (v_ 0) (v_ 7) (fun _ _ => rfl)) (v_ 4) (fun _ _ => rfl)) q_int) (q_p C__law_times hr (by omega) (takes_of rfl rfl rfl rfl) (a_cons (v_ 6) (a_cons (q_ix (v_ 3) (v_ 7) (fun _ _ => rfl)) a_nil))) (v_ 6)))))))))
  (b_cons (s_put (ps_asg (q_p C__law_times hr (by omega) (takes_of rfl rfl rfl rfl) (a_cons (q_p C__law_plus hr (by omega) (takes_of rfl rfl rfl rfl) (a_cons (v_ 5) (a_cons (v_ 6) a_nil))) (a_cons (q_tup (a_cons (q_ix (q_ix (v_ 3) (v_ 4) (fun _ _ => rfl)) q_int (fun _ _ => rfl)) (a_cons (q_ix (q_ix (v_ 3) (v_ 4) (fun _ _ => rfl)) q_int (fun _ _ => rfl)) a_nil))) a_nil))) (pg_sub (v_ 3) (v_ 4) set_list)))
  (b_one (s_set (ps_set (i := 0) sc__law_values.nd rfl (by first | exact .inl rfl | exact .inr rfl) (q_p C__law_turn hr (by omega) (takes_of rfl rfl rfl rfl) (a_cons (v_ 0) (a_cons (v_ 4) a_nil))))))))))
  (b_one (s_ret (v_ 3)))))
theorem ok__law_values {f : Addr} {fd : FuncData} (T : Tx K mg) (C__law_times : CalP P w K mg base "_law_times" 2 ["_law_one", "_law_other"] F__law_times) (C__law_turn : CalP P w K mg base "_law_turn" 1 ["_law_web_here", "_law_x"] F__law_turn) (C__law_plus : CalP P w K mg base "_law_plus" 2 ["_law_one", "_law_other"] F__law_plus) (F : FnD K "_law_values" s__law_values f fd) (hm : mg "_law_values" = some (.ref f)) : CalP P w K mg base "_law_values" 3 ["_law_web_here", "_law_told", "_law_starts_here"] F__law_values :=
  ⟨fn_okP F sc__law_values fun cdv A outer s H E hr => b__law_values T C__law_times C__law_turn C__law_plus hr, hm, F.kp, F.bindsN (fun _ _ _ _ _ _ us hl => match us, hl with | [_, _, _], _ => rfl), runP_len⟩
abbrev s_law : Stmt := top 59
abbrev N_law : List Str := ["_law_script", "_law_row", "_law_n", "_law_web_here", "_law_moved", "_law_starts_here", "_law_many", "_law_due", "_law_told", "_law_found", "_law_whole", "_law_x", "_law_at", "_law_one"]
theorem sc_law : FnScope N_law ["_law_script"] (defScope s_law) := ⟨rfl, rfl, rfl, by decide +kernel, rfl, by decide +kernel, by decide +kernel⟩
def D_law : DS :=
  (seqS (asgS 1 (ownE (szF (consL (var 0) (consL (cst (.int 0)) (consL (cst (.int 7328)) (consL (cst (.int 0)) nilL)))))))
  (seqS (asgS 2 (bin addD (cst (.int 2)) (callR F__law_taken (var 1) (consL (cst (.int 4)) nilL))))
  (seqS (asgS 3 (callR F__law_pick (var 1) (consL (frzE (szF (consL (callR F__law_steady (var 1) (consL (var 2) nilL)) (consL (callR F__law_steady (var 1) (consL (var 2) nilL)) (consL (callR F__law_web (var 1) (consL (cst (.int 5)) (consL (cst (.int 1)) nilL))) nilL))))) nilL)))
  (seqS (asgS 2 (blt lenD (consL (var 3) nilL)))
  (seqS (asgS 4 (callP F__law_named (consL (callP F__law_turn (consL (var 3) (consL (cst (.int 0)) nilL))) (consL (frzE (lcF [11] (rng1 (consL (var 2) nilL)) (.nm 11) yes (bin modD (bin subD (var 11) (cst (.int 1))) (var 2)))) nilL))))
  (seqS (ifS (notB (asB (callP (F__law_alike 8) (consL (callP F_is_steady (consL (var 3) nilL)) (consL (bin eqD (var 4) (var 3)) nilL))))) (rtS (cst (.bool false))) nilS)
  (seqS (parS [5, 6] (consL (callR F__law_starts (var 1) (consL (var 2) nilL)) (consL (callR F__law_taken (var 1) (consL (cst (.int 12)) nilL)) nilL)))
  (seqS (ifS (asB (bin neD (var 4) (var 3))) (tryS "NotSteady" (rtS (bin isN (callP F_steady_row (consL (var 3) (consL (var 5) (consL (var 6) nilL)))) (cst .none))) (rtS (cst (.bool true)))) nilS)
  (seqS (tryS "TooGreat" (seqS (asgS 9 (callP F_steady_row (consL (var 3) (consL (var 5) (consL (var 6) nilL)))))
  (asgS 10 (callP F_steady_row (consL (var 3) (consL (bin mulD (tupE (consL (tupE (consL (cst (.int 1)) (consL (cst (.int 1)) nilL))) nilL)) (var 2)) (consL (var 6) nilL)))))) (rtS (bin gtI (var 6) (bin addD (var 2) (cst (.int 2))))))
  (seqS (asgS 7 (ownE (lstF (var 5))))
  (seqS (whS fuel (asB (bin ltI (blt lenD (consL (var 7) nilL)) (var 6))) (exS (metE appM (var 7) (consL (ixE (callP F__law_values (consL (var 3) (consL (tupE (consL (cst (.int 0)) nilL)) (consL (slE (var 7) (someO (bin subD (blt lenD (consL (var 7) nilL)) (var 2))) noO) nilL)))) (cst (.int 0))) nilL))))
  (seqS (ifS (orB (notB (asB (callP (F__law_alike 8) (consL (var 9) (consL (blt tupD (consL (slE (var 7) noO (someO (var 6))) nilL)) nilL))))) (asB (bin neD (frzE (lcF [13] (seqI (var 10)) (.nm 13) (asB (bin neD (ixE (var 13) (cst (.int 1))) (cst (.int 1)))) (var 13))) (frzE (szF nilL))))) (rtS (cst (.bool false))) nilS)
  (seqS (ifS (orB (asB (bin ltI (var 6) (bin addD (var 2) (cst (.int 1))))) (orB (asB (bin gtI (var 6) (bin mulD (cst (.int 2)) (var 2)))) (asB (bin notN (callP F_is_web (consL (var 3) nilL)) (cst (.bool true)))))) (rtS (cst (.bool true))) nilS)
  (seqS (asgS 8 (callP F_values (consL (var 3) (consL (tupRgE (bin subD (var 6) (var 2))) (consL (var 5) nilL)))))
  (rtS (bin eqD (frzE (lcF [12] (rng2 (consL (var 2) (consL (var 6) nilL))) (.nm 12) yes (ixE (var 8) (bin modD (var 12) (var 2))))) (frzE (lstF (slE (var 9) (someO (var 2)) noO)))))))))))))))))))
def F_law : FnP := runP 14 1 D_law
theorem b_law {cdv : Value} {A : Around} {outer : List Env} {s : Shared} {H : Hp} {E : XK} {f : Addr} (T : Tx K mg) (C__law_pick : CalR P w K mg base "_law_pick" 2 ["_law_row", "_law_things"] F__law_pick) (C__law_named : CalP P w K mg base "_law_named" 1 ["_law_web_here", "_law_order"] F__law_named) (C_values : CalP P w K mg base "values" 7 ["web", "row", "shares"] F_values) (C__law_taken : CalR P w K mg base "_law_taken" 1 ["_law_row", "_law_many"] F__law_taken) (C__law_turn : CalP P w K mg base "_law_turn" 1 ["_law_web_here", "_law_x"] F__law_turn) (C__law_alike : CalP P w K mg base "_law_alike" 8 ["_law_found", "_law_due"] (F__law_alike 8)) (C__law_starts : CalR P w K mg base "_law_starts" 2 ["_law_row", "_law_n"] F__law_starts) (C_steady_row : CalP P w K mg base "steady_row" 6 ["web", "shares", "many"] F_steady_row) (C__law_steady : CalR P w K mg base "_law_steady" 3 ["_law_row", "_law_n"] F__law_steady) (C__law_web : CalR P w K mg base "_law_web" 3 ["_law_row", "_law_most", "_law_strong"] F__law_web) (C_is_steady : CalP P w K mg base "is_steady" 6 ["web"] F_is_steady) (C_is_web : CalP P w K mg base "is_web" 4 ["value"] F_is_web) (C__law_values : CalP P w K mg base "_law_values" 3 ["_law_web_here", "_law_told", "_law_starts_here"] F__law_values) (hr : Room 8 (A.deeper (envOfC "law" (defScope s_law) s.heap.objs.size f cdv))) :
    QB (cxOf (L2.CX P w) P w K mg base N_law "law" (defScope s_law) f cdv A outer s H E) (WE0 E) (defBody s_law) D_law :=
  (b_cons (s_set (ps_set (i := 1) sc_law.nd rfl (by first | exact .inl rfl | exact .inr rfl) (q_own (f_lst (a_cons (v_ 0) (a_cons q_int (a_cons q_int (a_cons q_int a_nil))))))))
  (b_cons (s_set (ps_set (i := 2) sc_law.nd rfl (by first | exact .inl rfl | exact .inr rfl) (q_add q_int (q_r C__law_taken hr (by omega) (takes_of rfl rfl rfl rfl) (v_ 1) (a_cons q_int a_nil)))))
  (b_cons (s_set (ps_set (i := 3) sc_law.nd rfl (by first | exact .inl rfl | exact .inr rfl) (q_r C__law_pick hr (by omega) (takes_of rfl rfl rfl rfl) (v_ 1) (a_cons (q_frz (f_lst (a_cons (q_r C__law_steady hr (by omega) (takes_of rfl rfl rfl rfl) (v_ 1) (a_cons (v_ 2) a_nil)) (a_cons (q_r C__law_steady hr (by omega) (takes_of rfl rfl rfl rfl) (v_ 1) (a_cons (v_ 2) a_nil)) (a_cons (q_r C__law_web hr (by omega) (takes_of rfl rfl rfl rfl) (v_ 1) (a_cons q_int (a_cons q_int a_nil))) a_nil))))) a_nil))))
  (b_cons (s_set (ps_set (i := 2) sc_law.nd rfl (by first | exact .inl rfl | exact .inr rfl) (q_b bLen T.n_len (by decide +kernel) (a_cons (v_ 3) a_nil))))
  (b_cons (s_set (ps_set (i := 4) sc_law.nd rfl (by first | exact .inl rfl | exact .inr rfl) (q_p C__law_named hr (by omega) (takes_of rfl rfl rfl rfl) (a_cons (q_p C__law_turn hr (by omega) (takes_of rfl rfl rfl rfl) (a_cons (v_ 3) (a_cons q_int a_nil))) (a_cons (q_frz (f_lc (own := [("_law_x", 11)]) rfl sc_law.nd (i_rng1 (by rfl) T.n_range (a_cons (v_ 2) a_nil)) (blkOk_by (N := N_law) (sc := defScope s_law) (own := [("_law_x", 11)]) (by decide +kernel)) (by decide) (fun _ _ _ _ _ => (pg_name (i := 11) sc_law.nd rfl (by first | exact .inl rfl | exact .inr rfl))) (fun _ _ _ _ _ => ts_nil) (fun _ _ _ _ _ => (q_mod (q_sub (v_ 11) q_int) (v_ 2))))) a_nil)))))
  (b_cons (s_if (t_not (t_val (q_p C__law_alike hr (by omega) (takes_of rfl rfl rfl rfl) (a_cons (q_p C_is_steady hr (by omega) (takes_of rfl rfl rfl rfl) (a_cons (v_ 3) a_nil)) (a_cons (q_c (cEq hr) (v_ 4) (v_ 3)) a_nil))))) (b_one (s_ret q_bl)) b_nil)
  (b_cons (s_par (ps_par (i := 5) (j := 6) rfl sc_law.nd rfl rfl (by decide) rfl rfl (a_cons (q_r C__law_starts hr (by omega) (takes_of rfl rfl rfl rfl) (v_ 1) (a_cons (v_ 2) a_nil)) (a_cons (q_r C__law_taken hr (by omega) (takes_of rfl rfl rfl rfl) (v_ 1) (a_cons q_int a_nil)) a_nil)) (by rfl)))
  (b_cons (s_if (t_c (cNe hr) (v_ 4) (v_ 3)) (b_one (s_try T.x_NotSteady (by rfl) (takes_of rfl rfl rfl rfl) rfl rfl (fun _ _ _ tk => (b_one (s_ret (q_c (cIs) (q_p C_steady_row hr (by omega) tk (a_cons (v_ 3) (a_cons (v_ 5) (a_cons (v_ 6) a_nil)))) q_non)))) (fun _ _ => (b_one (s_ret q_bl))))) b_nil)
  (b_cons (s_try T.x_TooGreat (by rfl) (takes_of rfl rfl rfl rfl) rfl rfl (fun _ _ _ tk => (b_cons (s_set (ps_set (i := 9) sc_law.nd rfl (by first | exact .inl rfl | exact .inr rfl) (q_p C_steady_row hr (by omega) tk (a_cons (v_ 3) (a_cons (v_ 5) (a_cons (v_ 6) a_nil))))))
  (b_one (s_set (ps_set (i := 10) sc_law.nd rfl (by first | exact .inl rfl | exact .inr rfl) (q_p C_steady_row hr (by omega) tk (a_cons (v_ 3) (a_cons (q_mul (q_tup (a_cons (q_tup (a_cons q_int (a_cons q_int a_nil))) a_nil)) (v_ 2)) (a_cons (v_ 6) a_nil))))))))) (fun _ _ => (b_one (s_ret (q_c (cGt) (v_ 6) (q_add (v_ 2) q_int))))))
  (b_cons (s_set (ps_set (i := 7) sc_law.nd rfl (by first | exact .inl rfl | exact .inr rfl) (q_own (f_list (pe_callTy call_list_of (by rfl) T.n_list (by decide +kernel) (pa_cons (v_ 5) pa_nil))))))
  (b_cons (s_while (n := fuel) (passes_of rfl) (t_c (cLt) (q_b bLen T.n_len (by decide +kernel) (a_cons (v_ 7) a_nil)) (v_ 6)) (b_one (s_expr (q_met m_app (pe_bm PySem.F.plainAttrs_list PySem.F.slot_list_append PySem.F.type_list_append mt_append (v_ 7) (a_cons (q_ix (q_p C__law_values hr (by omega) (takes_of rfl rfl rfl rfl) (a_cons (v_ 3) (a_cons (q_tup (a_cons q_int a_nil)) (a_cons (q_sl (v_ 7) (o_some (q_sub (q_b bLen T.n_len (by decide +kernel) (a_cons (v_ 7) a_nil)) (v_ 2))) o_none) a_nil)))) q_int (fun _ _ => rfl)) a_nil))))))
  (b_cons (s_if (t_bool (w_or (t_not (t_val (q_p C__law_alike hr (by omega) (takes_of rfl rfl rfl rfl) (a_cons (v_ 9) (a_cons (q_bt bTuple T.n_tuple (by decide +kernel) (a_cons (q_sl (v_ 7) o_none (o_some (v_ 6))) a_nil)) a_nil))))) (w_or1 (t_c (cNe hr) (q_frz (f_lc (own := [("_law_one", 13)]) rfl sc_law.nd (i_seq (v_ 10)) (blkOk_by (N := N_law) (sc := defScope s_law) (own := [("_law_one", 13)]) (by decide +kernel)) (by decide) (fun _ _ _ _ _ => (pg_name (i := 13) sc_law.nd rfl (by first | exact .inl rfl | exact .inr rfl))) (fun _ _ _ _ _ => (ts_one (t_c (cNe hr) (q_ix (v_ 13) q_int (fun _ _ => rfl)) q_int))) (fun _ _ _ _ _ => (v_ 13)))) (q_frz (f_lst a_nil)))))) (b_one (s_ret q_bl)) b_nil)
  (b_cons (s_if (t_bool (w_or (t_c (cLt) (v_ 6) (q_add (v_ 2) q_int)) (w_or (t_c (cGt) (v_ 6) (q_mul q_int (v_ 2))) (w_or1 (t_c (cIsNot) (q_p C_is_web hr (by omega) (takes_of rfl rfl rfl rfl) (a_cons (v_ 3) a_nil)) q_bl))))) (b_one (s_ret q_bl)) b_nil)
  (b_cons (s_set (ps_set (i := 8) sc_law.nd rfl (by first | exact .inl rfl | exact .inr rfl) (q_p C_values hr (by omega) (takes_of rfl rfl rfl rfl) (a_cons (v_ 3) (a_cons (q_tupRg (pe_tupRg rfl (by rfl) T.n_tuple (prg_1 (by rfl) T.n_range (q_sub (v_ 6) (v_ 2))))) (a_cons (v_ 5) a_nil))))))
  (b_one (s_ret (q_c (cEq hr) (q_frz (f_lc (own := [("_law_at", 12)]) rfl sc_law.nd (i_rng2 (by rfl) T.n_range (a_cons (v_ 2) (a_cons (v_ 6) a_nil))) (blkOk_by (N := N_law) (sc := defScope s_law) (own := [("_law_at", 12)]) (by decide +kernel)) (by decide) (fun _ _ _ _ _ => (pg_name (i := 12) sc_law.nd rfl (by first | exact .inl rfl | exact .inr rfl))) (fun _ _ _ _ _ => ts_nil) (fun _ _ _ _ _ => (q_ix (v_ 8) (q_mod (v_ 12) (v_ 2)) (fun _ _ => rfl))))) (q_frz (f_list (pe_callTy call_list_of (by rfl) T.n_list (by decide +kernel) (pa_cons (q_sl (v_ 9) (o_some (v_ 2)) o_none) pa_nil)))))))))))))))))))))
theorem ok_law {f : Addr} {fd : FuncData} (T : Tx K mg) (C__law_pick : CalR P w K mg base "_law_pick" 2 ["_law_row", "_law_things"] F__law_pick) (C__law_named : CalP P w K mg base "_law_named" 1 ["_law_web_here", "_law_order"] F__law_named) (C_values : CalP P w K mg base "values" 7 ["web", "row", "shares"] F_values) (C__law_taken : CalR P w K mg base "_law_taken" 1 ["_law_row", "_law_many"] F__law_taken) (C__law_turn : CalP P w K mg base "_law_turn" 1 ["_law_web_here", "_law_x"] F__law_turn) (C__law_alike : CalP P w K mg base "_law_alike" 8 ["_law_found", "_law_due"] (F__law_alike 8)) (C__law_starts : CalR P w K mg base "_law_starts" 2 ["_law_row", "_law_n"] F__law_starts) (C_steady_row : CalP P w K mg base "steady_row" 6 ["web", "shares", "many"] F_steady_row) (C__law_steady : CalR P w K mg base "_law_steady" 3 ["_law_row", "_law_n"] F__law_steady) (C__law_web : CalR P w K mg base "_law_web" 3 ["_law_row", "_law_most", "_law_strong"] F__law_web) (C_is_steady : CalP P w K mg base "is_steady" 6 ["web"] F_is_steady) (C_is_web : CalP P w K mg base "is_web" 4 ["value"] F_is_web) (C__law_values : CalP P w K mg base "_law_values" 3 ["_law_web_here", "_law_told", "_law_starts_here"] F__law_values) (F : FnD K "law" s_law f fd) (hm : mg "law" = some (.ref f)) : CalP P w K mg base "law" 9 ["_law_script"] F_law :=
  ⟨fn_okP F sc_law fun cdv A outer s H E hr => b_law T C__law_pick C__law_named C_values C__law_taken C__law_turn C__law_alike C__law_starts C_steady_row C__law_steady C__law_web C_is_steady C_is_web C__law_values hr, hm, F.kp, F.bindsN (fun _ _ _ _ _ _ us hl => match us, hl with | [_], _ => rfl), runP_len⟩
end
end K28
set_option Elab.async false
set_option linter.all false
set_option maxRecDepth 100000
set_option maxHeartbeats 4000000
namespace K28
open PySem DV
theorem web_eq : F__law_web = webF := rfl
theorem st_eq : F__law_steady = stF := rfl
theorem turn_eq : F__law_turn = turnF := rfl
theorem named_eq : F__law_named = lnamedF := rfl
theorem vals_eq' : F__law_values = valsF := rfl
theorem starts_eq : F__law_starts = startsF := rfl
theorem isSt_eq : F_is_steady = isStF := rfl
theorem row_eq : F_steady_row = stRowF := rfl
theorem values_eq : F_values = valuesF := rfl
theorem isWeb_eq : F_is_web = isWebF := rfl
theorem alike8 : F__law_alike 8 = runP 4 2 (alikeD (F__law_alike 7)) := rfl
theorem alike7 : F__law_alike 7 = runP 4 2 (alikeD (F__law_alike 6)) := rfl
theorem alike6 : F__law_alike 6 = runP 4 2 (alikeD (F__law_alike 5)) := rfl
theorem alike_sh (p : Shr) : F__law_alike 7 [shD p, shD p] = .ok (.bool true) := by
  rw [alike7]
  refine alike_tup (R := F__law_alike 6) (n := 2) (g := fun k => if k = 0 then .int p.1 else .int p.2) (by decide) (fun k hk => ?_)
  rw [alike6]
  have : k = 0 ∨ k = 1 := by omega
  rcases this with rfl | rfl
  · exact alike_int _ _
  · exact alike_int _ _
theorem alike_shl {many : Nat} (g : Nat → Shr) (h : many ≤ 1000) : F__law_alike 8 [.tuple (shL many g), .tuple (shL many g)] = .ok (.bool true) := by
  rw [alike8]
  exact alike_tup (R := F__law_alike 7) (g := fun k => shD (g k)) h fun k _ => alike_sh _
theorem alike_b (s : Bool) : F__law_alike 8 [.bool s, .bool s] = .ok (.bool true) := by
  rw [alike8]
  exact alike_bool _ _
theorem z_tryE {c : Str} {g h : DS} {sl sl1 : Sl} {S S1 : Sto} {e : Exn} {r : RS} (h1 : g sl S = .er e sl1 S1) (hc : e.cls = c) (h2 : h sl1 S1 = r) : tryS c g h sl S = r := by
  unfold tryS
  rw [h1]
  dsimp only
  rw [if_pos hc]
  exact h2
theorem z_tryN {c : Str} {g h : DS} {sl sl1 : Sl} {S S1 : Sto} (h1 : g sl S = .nx sl1 S1) : tryS c g h sl S = .nx sl1 S1 := by
  unfold tryS
  rw [h1]
theorem neD_nil : neD (.list []) (.list []) = some (.bool false) := by
  simp [neD, SeqAt.shaped, PyData.canLay0, PyData.canLayAll0, PyData.depth, PyData.depthAll, PyData.eqv, PyData.eqvAll]
def drawW : DE := callR F__law_pick (var 1) (consL (frzE (szF (consL (callR F__law_steady (var 1) (consL (var 2) nilL)) (consL (callR F__law_steady (var 1) (consL (var 2) nilL)) (consL (callR F__law_web (var 1) (consL (cst (.int 5)) (consL (cst (.int 1)) nilL))) nilL))))) nilL)
theorem draw_ok {sl : Sl} {row : List PyData} {n0 : Nat} (hr : RowOk row) (h1 : 1 ≤ n0) (h5 : n0 ≤ 5) (s1 : sl[1]? = some (some (.loc 0))) (s2 : sl[2]? = some (some (.d (.int n0)))) :
    ∃ (n : Nat) (M : Nat → Nat → Int) (row' : List PyData), drawW sl [.lst (row.map .d)] = .ok (.d (webD n M)) [.lst (row'.map .d)] ∧ RowOk row' ∧ 1 ≤ n ∧ n ≤ 5 ∧ Skew 102 M ∧ B2 n (M 0) := by
  obtain ⟨M1, row1, e1, ok1, k1, b1⟩ := st_ok hr h1 h5
  obtain ⟨M2, row2, e2, ok2, k2, b2⟩ := st_ok ok1 h1 h5
  obtain ⟨n3, M3, row3, e3, ok3, n31, n35, k3⟩ := web_ok ok2 (most := 5) (strong := 1) (by decide) (by decide) (by decide) (by decide)
  obtain ⟨x, row4, e4, ok4, hx⟩ := pick_ok ok3 (xs := [webD n0 M1, webD n0 M2, webD n3 M3]) (by simp) (by simp)
  have c1 : callR F__law_steady (var 1) (consL (var 2) nilL) sl [.lst (row.map .d)] = .ok (.d (webD n0 M1)) [.lst (row1.map .d)] := z_callR (Fn := F__law_steady) (k := 0) (S1 := [.lst (row.map .d)]) (S2 := [.lst (row.map .d)]) (ds := [.int n0]) (row := row) (z_var s1) (z_consD (z_var s2) z_nilD) rfl e1
  have c2 : callR F__law_steady (var 1) (consL (var 2) nilL) sl [.lst (row1.map .d)] = .ok (.d (webD n0 M2)) [.lst (row2.map .d)] := z_callR (Fn := F__law_steady) (k := 0) (S1 := [.lst (row1.map .d)]) (S2 := [.lst (row1.map .d)]) (ds := [.int n0]) (row := row1) (z_var s1) (z_consD (z_var s2) z_nilD) rfl e2
  have c3 : callR F__law_web (var 1) (consL (cst (.int 5)) (consL (cst (.int 1)) nilL)) sl [.lst (row2.map .d)] = .ok (.d (webD n3 M3)) [.lst (row3.map .d)] := z_callR (Fn := F__law_web) (k := 0) (S1 := [.lst (row2.map .d)]) (S2 := [.lst (row2.map .d)]) (ds := [.int 5, .int 1]) (row := row2) (z_var s1) (z_consD rfl (z_consD rfl z_nilD)) rfl e3
  have c4 : drawW sl [.lst (row.map .d)] = .ok (.d x) [.lst (row4.map .d)] := z_callR (Fn := F__law_pick) (k := 0) (S1 := [.lst (row.map .d)]) (S2 := [.lst (row3.map .d)]) (ds := [.list [webD n0 M1, webD n0 M2, webD n3 M3]]) (row := row3) (z_var s1) (z_consD (z_frzE (z_sz (z_consD c1 (z_consD c2 (z_consD c3 z_nilD))) (sz_ge 3 (by decide)))) z_nilD) rfl e4
  simp only [List.mem_cons, List.not_mem_nil, or_false] at hx
  rcases hx with rfl | rfl | rfl
  · exact ⟨n0, M1, row4, c4, ok4, h1, h5, k1, b1⟩
  · exact ⟨n0, M2, row4, c4, ok4, h1, h5, k2, b2⟩
  · exact ⟨n3, M3, row4, c4, ok4, n31, by omega, k3.mono (by decide), fun j hj => by have := k3 0 j; omega⟩
theorem oneOk {n : Nat} {M : Nat → Nat → Int} (hs : Skew 102 M) (hb : B2 n (M 0)) (h0 : 0 < n) : OneOk n M := fun a c ha hc => by
  rw [turnM_add hs]
  have h1 := hs a c
  have h2 := hb a ha
  have h3 := hb c hc
  have h4 := (hs 0 a).1
  have h5 := addZ_bd (a := M a 0) (b := M 0 c) (by omega) (by omega) h3.1 h3.2
  split <;> omega
theorem eB_of {n : Nat} {M : Nat → Nat → Int} {b : Int} (hs : Skew b M) (hb : B2 n (M 0)) : ∀ y, y < n → (M y 0).natAbs ≤ eB y := fun y hy => by
  unfold eB
  have h1 := hb y hy
  have h2 := (hs 0 y).1
  by_cases c : y = 0
  · subst c
    rw [if_pos rfl]
    omega
  · rw [if_neg c]
    omega
theorem one_start : StartS (1, 1) := startSB_ok (by decide)
theorem ones_ok {n : Nat} {sl : Sl} {S : Sto} (h1 : 1 ≤ n) (h5 : n ≤ 5) (s2 : sl[2]? = some (some (.d (.int n)))) : bin mulD (tupE (consL (tupE (consL (cst (.int 1)) (consL (cst (.int 1)) nilL))) nilL)) (var 2) sl S = .ok (.d (.tuple (shL n fun _ => (1, 1)))) S := by
  refine z_bin (d1 := .tuple [.tuple [.int 1, .int 1]]) (d2 := .int n) (z_tup (ds := [.tuple [.int 1, .int 1]]) (z_consD (z_tup (ds := [.int 1, .int 1]) (z_consD rfl (z_consD rfl z_nilD)) (sz_ge 2 (by decide))) z_nilD) (sz_ge 1 (by decide))) (z_var s2) ?_
  have : n = 1 ∨ n = 2 ∨ n = 3 ∨ n = 4 ∨ n = 5 := by omega
  rcases this with rfl | rfl | rfl | rfl | rfl <;> rfl
theorem tupRgc (j : Int) (S : Sto) (h2 : j < 2 ^ 62) (h3 : -(2 ^ 62) ≤ j) (h4 : (rangeL 0 j.toNat).length ≤ 10000000) : (if decide (-(2 ^ 62) ≤ j) && decide (j < 2 ^ 62) then (if (rangeL 0 j.toNat).length ≤ 10000000 then R.ok (Val.d (.tuple (rangeL 0 j.toNat))) S else .bad) else .bad) = .ok (.d (.tuple (rangeL 0 j.toNat))) S := by
  rw [decide_eq_true h2, decide_eq_true h3, if_pos h4]
  rfl
theorem tupRg_ok' {f : DE} {sl : Sl} {S : Sto} {j : Int} (h : f sl S = .ok (.d (.int j)) S) (h2 : j < 2 ^ 62) (h3 : -(2 ^ 62) ≤ j) (h4 : (rangeL 0 j.toNat).length ≤ 10000000) : tupRgE f sl S = .ok (.d (.tuple (rangeL 0 j.toNat))) S := by
  unfold tupRgE
  rw [h]
  exact tupRgc j S h2 h3 h4
theorem tupRg_ok {f : DE} {sl : Sl} {S : Sto} {m : Nat} (h : f sl S = .ok (.d (.int m)) S) (hm : m ≤ 1000000) : tupRgE f sl S = .ok (.d (rowT m)) S := by
  have := tupRg_ok' h (lt62 hm) ge62 (by rw [rangeL_length, Int.toNat_natCast]; omega)
  rw [Int.toNat_natCast] at this
  rw [this]
  unfold rowT
  rw [rangeL_0, List.range_eq_range']
end K28
set_option Elab.async false
set_option linter.all false
set_option maxRecDepth 100000
set_option maxHeartbeats 4000000
namespace K28
open PySem DV
section
variable {sc : Val} {n many : Nat} {M : Nat → Nat → Int} {f g g1 : Nat → Shr} {told whole : Option Val} {r : Ob}
abbrev Lsl (sc : Val) (n : Nat) (M : Nat → Nat → Int) (f : Nat → Shr) (many : Nat) (due told found whole : Option Val) : Sl := lawSl sc n M (.d (webD n (movM n M))) (.tuple (shL n f)) many due told found whole
/-- the two rows -/
def rowsS : DS := (tryS "TooGreat" (seqS (asgS 9 (callP F_steady_row (consL (var 3) (consL (var 5) (consL (var 6) nilL)))))
  (asgS 10 (callP F_steady_row (consL (var 3) (consL (bin mulD (tupE (consL (tupE (consL (cst (.int 1)) (consL (cst (.int 1)) nilL))) nilL)) (var 2)) (consL (var 6) nilL)))))) (rtS (bin gtI (var 6) (bin addD (var 2) (cst (.int 2))))))
theorem hand_ok {due t fo w : Option Val} {S : Sto} (h : n + 2 < many) : rtS (bin gtI (var 6) (bin addD (var 2) (cst (.int 2)))) (Lsl sc n M f many due t fo w) S = .rt (.bool true) S := by
  refine z_rt (z_bin (d1 := .int many) (d2 := .int ((n : Int) + 2)) (z_var rfl) (z_bin (d1 := .int n) (d2 := .int 2) (z_var rfl) rfl rfl) ?_)
  show some (PyData.bool (decide ((n : Int) + 2 < (many : Int)))) = _
  rw [decide_eq_true (by omega)]
theorem early (h1 : 1 ≤ n) (h5 : n ≤ 5) (hs : Skew 102 M) (hb : B2 n (M 0)) (hf : ∀ k, k < n → StartS (f k)) (h : seqG n M (many - n) 0 f = none) : n + 2 < many := by
  apply Decidable.byContradiction
  intro hc
  obtain ⟨g', e⟩ := seq_some h1 h5 (fun y => (hs y 0).1) (eB_of hs hb) (many - n) 0 f (by omega) (fun i hi => by
    have := startS_sz (hf i (by omega))
    unfold cb
    rw [if_pos (by omega)]
    exact this)
  rw [h] at e
  cases e
theorem rows_ok {row : List PyData} (h1 : 1 ≤ n) (h5 : n ≤ 5) (hs : Skew 102 M) (hb : B2 n (M 0)) (hst : stB n M = true) (hf : ∀ k, k < n → StartS (f k)) (hm : many ≤ 11) :
    (rowsS (Lsl sc n M f many none none none none) [.lst (row.map .d)] = .rt (.bool true) [.lst (row.map .d)]) ∨
    (∃ g g1, seqG n M (many - n) 0 f = some g ∧ seqG n M (many - n) 0 (fun _ => (1, 1)) = some g1 ∧ rowsS (Lsl sc n M f many none none none none) [.lst (row.map .d)] = .nx (Lsl sc n M f many none none (some (.d (.tuple (shL many g)))) (some (.d (.tuple (shL many g1))))) [.lst (row.map .d)]) := by
  have hw := oneOk hs hb (by omega : 0 < n)
  have r1 := stRow_ok h1 (by omega) hs (by decide) hw (f := f) (fun k hk => (hf k hk).1) (many := many) (by omega)
  have r2 := stRow_ok h1 (by omega) hs (by decide) hw (f := fun _ => (1, 1)) (fun k hk => one_start.1) (many := many) (by omega)
  rw [hst, if_pos rfl] at r1 r2
  have c1 : consL (var 3) (consL (var 5) (consL (var 6) nilL)) (Lsl sc n M f many none none none none) [.lst (row.map .d)] = .ok ([webD n M, .tuple (shL n f), .int many].map .d) [.lst (row.map .d)] := z_consD (z_var rfl) (z_consD (z_var rfl) (z_consD (z_var rfl) z_nilD))
  have c2 : ∀ fo, consL (var 3) (consL (bin mulD (tupE (consL (tupE (consL (cst (.int 1)) (consL (cst (.int 1)) nilL))) nilL)) (var 2)) (consL (var 6) nilL)) (Lsl sc n M f many none none fo none) [.lst (row.map .d)] = .ok ([webD n M, .tuple (shL n fun _ => (1, 1)), .int many].map .d) [.lst (row.map .d)] := fun fo => z_consD (z_var rfl) (z_consD (ones_ok h1 h5 rfl) (z_consD (z_var rfl) z_nilD))
  cases e1 : seqG n M (many - n) 0 f with
  | none =>
    rw [e1] at r1
    exact .inl (z_tryE (z_seqE (z_asgE (z_callPE (Fn := F_steady_row) c1 r1))) rfl (hand_ok (early h1 h5 hs hb hf e1)))
  | some g =>
    rw [e1] at r1
    have a1 : asgS 9 (callP F_steady_row (consL (var 3) (consL (var 5) (consL (var 6) nilL)))) (Lsl sc n M f many none none none none) [.lst (row.map .d)] = .nx (Lsl sc n M f many none none (some (.d (.tuple (shL many g)))) none) [.lst (row.map .d)] := z_asg (z_callP (Fn := F_steady_row) c1 r1)
    cases e2 : seqG n M (many - n) 0 (fun _ => (1, 1)) with
    | none =>
      rw [e2] at r2
      exact .inl (z_tryE (z_seq a1 (z_asgE (z_callPE (Fn := F_steady_row) (c2 _) r2))) rfl (hand_ok (early h1 h5 hs hb (fun _ _ => one_start) e2)))
    | some g1 =>
      rw [e2] at r2
      exact .inr ⟨g, g1, rfl, rfl, z_tryN (z_seq a1 (z_asg (z_callP (Fn := F_steady_row) (c2 _) r2)))⟩
/-- the law's own row, and what is asked of both -/
def askS : DS := (ifS (orB (notB (asB (callP (F__law_alike 8) (consL (var 9) (consL (blt tupD (consL (slE (var 7) noO (someO (var 6))) nilL)) nilL))))) (asB (bin neD (frzE (lcF [13] (seqI (var 10)) (.nm 13) (asB (bin neD (ixE (var 13) (cst (.int 1))) (cst (.int 1)))) (var 13))) (frzE (szF nilL))))) (rtS (cst (.bool false))) nilS)
theorem ask_ok {k : Nat} (h : many ≤ n + k) (hm : many ≤ 11) (hw : ∀ i, i < many → (g1 i).2 = 1) :
    askS (Lsl sc n M f many (some (.loc 1)) none (some (.d (.tuple (shL many g)))) (some (.d (.tuple (shL many g1))))) [r, .lst (valsL (n + k) g)] = .nx (Lsl sc n M f many (some (.loc 1)) none (some (.d (.tuple (shL many g)))) (some (.d (.tuple (shL many g1))))) [r, .lst (valsL (n + k) g)] := by
  have e1 : slE (var 7) noO (someO (var 6)) (Lsl sc n M f many (some (.loc 1)) none (some (.d (.tuple (shL many g)))) (some (.d (.tuple (shL many g1))))) [r, .lst (valsL (n + k) g)] = .ok (.d (.list (shL many fun y => g (0 + y)))) [r, .lst (valsL (n + k) g)] := by
    refine slE_L (n := n + k) (a := 0) (lo := none) (hi := some (many : Int)) (z_var rfl) (dat_due _ _) rfl (someO_ok (z_var rfl)) rfl ?_ (by omega)
    rw [HT.sIx_nat]; omega
  have e8 : (fun y => g (0 + y)) = g := by funext y; rw [Nat.zero_add]
  rw [e8] at e1
  have c2 := lcGo_map (slot := 13) (tt := asB (bin neD (ixE (var 13) (cst (.int 1))) (cst (.int 1)))) (el := var 13) (sl := wipeS (Lsl sc n M f many (some (.loc 1)) none (some (.d (.tuple (shL many g)))) (some (.d (.tuple (shL many g1))))) [13]) (S := [r, .lst (valsL (n + k) g)]) (p := fun _ => false) (f := fun d => d) (shL many g1) 0 (fun d hd => by
    obtain ⟨i, hi, rfl⟩ := List.mem_map.mp hd
    have := hw i (List.mem_range.mp hi)
    refine z_asB (z_bin (d1 := .int (g1 i).2) (d2 := .int 1) (z_ix (z_var rfl) rfl sh_1) rfl ?_)
    rw [this]
    rfl) (fun d hd hf => by cases hf) (by rw [shl_len]; exact sz_ge _ (by omega))
  have ef : (shL many g1).filter (fun _ => false) = [] := List.filter_eq_nil_iff.mpr fun _ _ => by simp
  rw [ef] at c2
  exact z_ifF (S1 := [r, .lst (valsL (n + k) g)]) (z_orF (z_notT (z_asB (z_callP (Fn := F__law_alike 8) (ds := [.tuple (shL many g), .tuple (shL many g)]) (z_consD (z_var rfl) (z_consD (z_blt (ds := [.list (shL many g)]) (z_consD e1 z_nilD) rfl) z_nilD)) (alike_shl g (by omega)))))
    (z_asB (z_bin (d1 := .list []) (d2 := .list []) (z_frzE (z_lc (own := [13]) (z_seqT (z_var rfl)) c2)) (z_frzE (ds := []) (z_sz z_nilD (Nat.zero_le _))) neD_nil))) z_nop
/-- the last part -/
def outB : DB := (orB (asB (bin ltI (var 6) (bin addD (var 2) (cst (.int 1))))) (orB (asB (bin gtI (var 6) (bin mulD (cst (.int 2)) (var 2)))) (asB (bin notN (callP F_is_web (consL (var 3) nilL)) (cst (.bool true))))))
theorem out_ok {due t fo w : Option Val} {S : Sto} (h1 : 1 ≤ n) (h5 : n ≤ 5) (hs : Skew 102 M) : outB (Lsl sc n M f many due t fo w) S = .ok (decide (many < n + 1 ∨ 2 * n < many)) S := by
  have mm : mulD (.int 2) (.int (n : Nat)) = some (.int (2 * (n : Int))) := mulD_small (by decide) (by decide) (by omega) (by omega)
  have e1 : ∀ b, decide (many < n + 1) = b → asB (bin ltI (var 6) (bin addD (var 2) (cst (.int 1)))) (Lsl sc n M f many due t fo w) S = .ok b S := fun b hb => by
    refine z_asB (z_bin (d1 := .int many) (d2 := .int ((n : Int) + 1)) (z_var rfl) (z_bin (d1 := .int n) (d2 := .int 1) (z_var rfl) rfl rfl) ?_)
    show some (PyData.bool (decide ((many : Int) < (n : Int) + 1))) = _
    rw [← hb]
    congr 2
    exact decide_eq_decide.mpr (by omega)
  have e2 : ∀ b, decide (2 * n < many) = b → asB (bin gtI (var 6) (bin mulD (cst (.int 2)) (var 2))) (Lsl sc n M f many due t fo w) S = .ok b S := fun b hb => by
    refine z_asB (z_bin (d1 := .int many) (d2 := .int (2 * (n : Int))) (z_var rfl) (z_bin (d1 := .int 2) (d2 := .int n) rfl (z_var rfl) mm) ?_)
    show some (PyData.bool (decide (2 * (n : Int) < (many : Int)))) = _
    rw [← hb]
    congr 2
    exact decide_eq_decide.mpr (by omega)
  by_cases c1 : many < n + 1
  · rw [decide_eq_true (.inl c1)]
    exact z_orT (e1 true (decide_eq_true c1))
  · by_cases c2 : 2 * n < many
    · rw [decide_eq_true (.inr c2)]
      exact z_orF (e1 false (decide_eq_false c1)) (z_orT (e2 true (decide_eq_true c2)))
    · rw [decide_eq_false (by omega)]
      refine z_orF (e1 false (decide_eq_false c1)) (z_orF (e2 false (decide_eq_false c2)) (z_asB (z_bin (d1 := .bool true) (d2 := .bool true) (z_callP (Fn := F_is_web) (ds := [webD n M]) (z_consD (z_var rfl) z_nilD) (isWeb_ok h1 (by omega) (by decide) hs)) rfl rfl)))
def endS : DS := (seqS (asgS 8 (callP F_values (consL (var 3) (consL (tupRgE (bin subD (var 6) (var 2))) (consL (var 5) nilL)))))
  (rtS (bin eqD (frzE (lcF [12] (rng2 (consL (var 2) (consL (var 6) nilL))) (.nm 12) yes (ixE (var 8) (bin modD (var 12) (var 2))))) (frzE (lstF (slE (var 9) (someO (var 2)) noO))))))
theorem end_ok {due w : Option Val} {S : Sto} (h1 : 1 ≤ n) (h5 : n ≤ 5) (hs : Skew 102 M) (hb : B2 n (M 0)) (hst : stB n M = true) (hf : ∀ k, k < n → StartS (f k)) (hm1 : n + 1 ≤ many) (hm2 : many ≤ 2 * n) (h : seqG n M (many - n) 0 f = some g) :
    endS (Lsl sc n M f many due none (some (.d (.tuple (shL many g)))) w) S = .rt (.bool true) S := by
  have v := steady_values h1 h5 hs (by decide) hst (eB_of hs hb) hf (m := many - n) (by omega) h
  have a1 : asgS 8 (callP F_values (consL (var 3) (consL (tupRgE (bin subD (var 6) (var 2))) (consL (var 5) nilL)))) (Lsl sc n M f many due none (some (.d (.tuple (shL many g)))) w) S = .nx (Lsl sc n M f many due (some (.d (.tuple (shL n (atF n g (many - n)))))) (some (.d (.tuple (shL many g)))) w) S := by
    refine z_asg (z_callP (Fn := F_values) (ds := [webD n M, rowT (many - n), .tuple (shL n f)]) (z_consD (z_var rfl) (z_consD (tupRg_ok (m := many - n) (z_bin (d1 := .int many) (d2 := .int n) (z_var rfl) (z_var rfl) ?_) (by omega)) (z_consD (z_var rfl) z_nilD))) v)
    show some (PyData.int ((many : Int) - (n : Int))) = _
    congr 2
    omega
  have c2 := lcGo_yes (slot := 12) (el := ixE (var 8) (bin modD (var 12) (var 2))) (sl := wipeS (Lsl sc n M f many due (some (.d (.tuple (shL n (atF n g (many - n)))))) (some (.d (.tuple (shL many g)))) w) [12]) (S := S) (f := fun d => match d with | .int z => shD (g z.toNat) | d => d) (rangeL (n : Nat) (many - n)) 0 (fun d hd => by
    unfold rangeL at hd
    obtain ⟨i, hi, rfl⟩ := List.mem_map.mp hd
    have hi' := List.mem_range.mp hi
    have hin : i < n := by omega
    refine z_ix (z_var rfl) (z_bin (d1 := .int ((n : Int) + (i : Nat))) (d2 := .int n) (d := .int (i : Nat)) (z_var rfl) (z_var rfl) ?_) ?_
    · show (if (0 : Int) < (n : Int) then some (PyData.int (((n : Int) + (i : Nat)) % (n : Int))) else none) = _
      rw [if_pos (by omega), Int.add_emod_left, Int.emod_eq_of_lt (by omega) (by omega)]
    · show okD (L2.atI (shL n (atF n g (many - n))) (i : Int)) S = _
      unfold shL
      rw [atI_map (fun k => shD (atF n g (many - n) k)) hin]
      show R.ok (Val.d (shD (atF n g (many - n) i))) S = .ok (.d (shD (g ((n : Int) + (i : Nat)).toNat))) S
      unfold atF
      rw [if_pos hi', show ((n : Int) + (i : Nat)).toNat = n + i by omega]) (by rw [rangeL_length]; exact sz_ge _ (by omega))
  have em : (rangeL (n : Nat) (many - n)).map (fun d => match d with | PyData.int z => shD (g z.toNat) | d => d) = shL (many - n) fun y => g (n + y) := by
    unfold rangeL shL
    rw [List.map_map]
    apply List.map_congr_left
    intro i _
    show shD (g ((n : Int) + (i : Nat)).toNat) = _
    rw [show ((n : Int) + (i : Nat)).toNat = n + i by omega]
  rw [em] at c2
  have e3 : slE (var 9) (someO (var 2)) noO (Lsl sc n M f many due (some (.d (.tuple (shL n (atF n g (many - n)))))) (some (.d (.tuple (shL many g)))) w) S = .ok (.d (.tuple (shL (many - n) fun y => g (n + y)))) S := by
    refine slE_T (n := many) (a := n) (k := many - n) (x := .d (.tuple (shL many g))) (lo := some (n : Int)) (hi := none) (z_var rfl) rfl (someO_ok (z_var rfl)) rfl ?_ ?_ (by omega)
    · rw [HT.sIx_nat]; omega
    · rw [HT.sIx_none]; omega
  exact z_seq a1 (z_rt (z_bin (d1 := .list (shL (many - n) fun y => g (n + y))) (d2 := .list (shL (many - n) fun y => g (n + y))) (z_frzE (z_lc (own := [12]) (rng2_ok (i := n) (k := many) (z_cons (z_var rfl) (z_cons (z_var rfl) z_nil)) (by omega) (by omega)) c2)) (z_frzE (z_lst1 e3)) (eqD_shl _ _)))
end
end K28
set_option Elab.async false
set_option linter.all false
set_option maxRecDepth 100000
set_option maxHeartbeats 4000000
namespace K28
open PySem DV
theorem law_true (ns : List Int) (hl : ns.length ≤ 63) : F_law [scrD ns] = .ok (.bool true) := by
  have ok0 : RowOk (rowD ns 0 7328 0) := ⟨ns, 0, 7328, 0, rfl, by decide, by decide, by decide⟩
  obtain ⟨r0, row1, e1, ok1, r00, r01⟩ := taken_ok ok0 (many := 4) (by decide) (by decide +kernel)
  obtain ⟨n0, hn0⟩ : ∃ n0 : Nat, 2 + r0 = n0 := ⟨(2 + r0).toNat, by omega⟩
  let sl0 : Sl := slots 14 [.d (scrD ns)]
  let S0 : Sto := [.lst ((rowD ns 0 7328 0).map .d)]
  let sl1 : Sl := [some (.d (scrD ns)), some (.loc 0), some (.d (.int n0)), none, none, none, none, none, none, none, none, none, none, none]
  obtain ⟨n, M, row2, e2, ok2, h1, h5, hs, hb⟩ := draw_ok (sl := sl1) (n0 := n0) ok1 (by omega) (by omega) rfl rfl
  let sl2 : Sl := [some (.d (scrD ns)), some (.loc 0), some (.d (.int n)), some (.d (webD n M)), none, none, none, none, none, none, none, none, none, none]
  let sl3 : Sl := [some (.d (scrD ns)), some (.loc 0), some (.d (.int n)), some (.d (webD n M)), some (.d (webD n (movM n M))), none, none, none, none, none, none, none, none, none]
  have p1 : asgS 1 (ownE (szF (consL (var 0) (consL (cst (.int 0)) (consL (cst (.int 7328)) (consL (cst (.int 0)) nilL)))))) sl0 [] = .nx (sl0.set 1 (some (.loc 0))) S0 :=
    z_asg (z_own (S1 := []) (z_sz (z_cons (z_var rfl) (z_cons rfl (z_cons rfl (z_cons rfl z_nil)))) (sz_ge 4 (by decide))))
  have p2 : asgS 2 (bin addD (cst (.int 2)) (callR F__law_taken (var 1) (consL (cst (.int 4)) nilL))) (sl0.set 1 (some (.loc 0))) S0 = .nx sl1 [.lst (row1.map .d)] := by
    refine z_asg (x := .d (.int n0)) (z_bin rfl (z_callR (Fn := F__law_taken) (k := 0) (S1 := S0) (S2 := S0) (ds := [.int 4]) (row := rowD ns 0 7328 0) (z_var rfl) rfl rfl e1) ?_)
    show some (PyData.int (2 + r0)) = _
    rw [hn0]
  have p3 : asgS 3 drawW sl1 [.lst (row1.map .d)] = .nx (sl1.set 3 (some (.d (webD n M)))) [.lst (row2.map .d)] := z_asg e2
  have p4 : asgS 2 (blt lenD (consL (var 3) nilL)) (sl1.set 3 (some (.d (webD n M)))) [.lst (row2.map .d)] = .nx sl2 [.lst (row2.map .d)] := z_asg (x := .d (.int n)) (len_web rfl)
  have p5 : asgS 4 (callP F__law_named (consL (callP F__law_turn (consL (var 3) (consL (cst (.int 0)) nilL))) (consL (frzE (lcF [11] (rng1 (consL (var 2) nilL)) (.nm 11) yes (bin modD (bin subD (var 11) (cst (.int 1))) (var 2)))) nilL))) sl2 [.lst (row2.map .d)] = .nx sl3 [.lst (row2.map .d)] :=
    z_asg (x := .d (webD n (movM n M))) (z_callP (Fn := F__law_named) (ds := [webD n (turnM M 0), .list (ordD n)]) (z_consD (z_callP (Fn := F__law_turn) (ds := [webD n M, .int 0]) (z_consD (z_var rfl) (z_consD rfl z_nilD)) (turn_ok (x := 0) hs (by decide) (by omega) h1)) (z_consD (ordL_ok (slot := 11) (k := 2) rfl (fun y => ⟨rfl, rfl⟩) h1 (by omega)) z_nilD)) (lnamed_ok ordLi (by omega)))
  have p6 : ifS (notB (asB (callP (F__law_alike 8) (consL (callP F_is_steady (consL (var 3) nilL)) (consL (bin eqD (var 4) (var 3)) nilL))))) (rtS (cst (.bool false))) nilS sl3 [.lst (row2.map .d)] = .nx sl3 [.lst (row2.map .d)] :=
    z_ifF (S1 := [.lst (row2.map .d)]) (z_notT (z_asB (z_callP (Fn := F__law_alike 8) (ds := [.bool (stB n M), .bool (stB n M)]) (z_consD (z_callP (Fn := F_is_steady) (ds := [webD n M]) (z_consD (z_var rfl) z_nilD) (isSt_ok h1 (by omega) hs (by decide))) (z_consD (z_bin (d1 := webD n (movM n M)) (d2 := webD n M) (z_var rfl) (z_var rfl) (eqD_web _ _ _)) z_nilD)) (alike_b _)))) z_nop
  obtain ⟨f, row3, e3, ok3, hf⟩ := starts_ok ok2 (n := n) (by omega)
  obtain ⟨m0, row4, e4, ok4, m00, m01⟩ := taken_ok ok3 (many := 12) (by decide) (by decide +kernel)
  obtain ⟨many, rfl⟩ : ∃ many : Nat, m0 = many := ⟨m0.toNat, by omega⟩
  have p7 : parS [5, 6] (consL (callR F__law_starts (var 1) (consL (var 2) nilL)) (consL (callR F__law_taken (var 1) (consL (cst (.int 12)) nilL)) nilL)) sl3 [.lst (row2.map .d)] = .nx (Lsl (.d (scrD ns)) n M f many none none none none) [.lst (row4.map .d)] :=
    z_par (z_cons (z_callR (Fn := F__law_starts) (k := 0) (S1 := [.lst (row2.map .d)]) (S2 := [.lst (row2.map .d)]) (ds := [.int n]) (row := row2) (z_var rfl) (z_consD (z_var rfl) z_nilD) rfl e3) (z_cons (z_callR (Fn := F__law_taken) (k := 0) (S1 := [.lst (row3.map .d)]) (S2 := [.lst (row3.map .d)]) (ds := [.int 12]) (row := row3) (z_var rfl) rfl rfl e4) z_nil)) rfl (by decide)
  have ne : asB (bin neD (var 4) (var 3)) (Lsl (.d (scrD ns)) n M f many none none none none) [.lst (row4.map .d)] = .ok (!stB n M) [.lst (row4.map .d)] := z_asB (z_bin (d1 := webD n (movM n M)) (d2 := webD n M) (z_var rfl) (z_var rfl) (neD_web _ _ _))
  cases hst : stB n M with
  | false =>
    rw [hst] at ne
    have rr := stRow_ok h1 (by omega) hs (by decide) (oneOk hs hb (by omega)) (f := f) (fun k hk => (hf k hk).1) (many := many) (by omega)
    rw [hst, if_neg (by decide)] at rr
    have c1 : consL (var 3) (consL (var 5) (consL (var 6) nilL)) (Lsl (.d (scrD ns)) n M f many none none none none) [.lst (row4.map .d)] = .ok ([webD n M, .tuple (shL n f), .int many].map .d) [.lst (row4.map .d)] := z_consD (z_var rfl) (z_consD (z_var rfl) (z_consD (z_var rfl) z_nilD))
    have p8 : ifS (asB (bin neD (var 4) (var 3))) (tryS "NotSteady" (rtS (bin isN (callP F_steady_row (consL (var 3) (consL (var 5) (consL (var 6) nilL)))) (cst .none))) (rtS (cst (.bool true)))) nilS (Lsl (.d (scrD ns)) n M f many none none none none) [.lst (row4.map .d)] = .rt (.bool true) [.lst (row4.map .d)] :=
      z_ifT ne (z_tryE (z_rtE (z_binE (z_callPE (Fn := F_steady_row) c1 rr))) rfl (z_rt rfl))
    exact z_runP rfl (z_seq p1 (z_seq p2 (z_seq p3 (z_seq p4 (z_seq p5 (z_seq p6 (z_seq p7 (z_seqR p8)))))))) rfl
  | true =>
    rw [hst] at ne
    have p8 : ifS (asB (bin neD (var 4) (var 3))) (tryS "NotSteady" (rtS (bin isN (callP F_steady_row (consL (var 3) (consL (var 5) (consL (var 6) nilL)))) (cst .none))) (rtS (cst (.bool true)))) nilS (Lsl (.d (scrD ns)) n M f many none none none none) [.lst (row4.map .d)] = .nx (Lsl (.d (scrD ns)) n M f many none none none none) [.lst (row4.map .d)] :=
      z_ifF ne z_nop
    rcases rows_ok (sc := .d (scrD ns)) (row := row4) h1 h5 hs hb hst hf (by omega : many ≤ 11) with p9 | ⟨g, g1, eg, eg1, p9⟩
    · exact z_runP rfl (z_seq p1 (z_seq p2 (z_seq p3 (z_seq p4 (z_seq p5 (z_seq p6 (z_seq p7 (z_seq p8 (z_seqR p9))))))))) rfl
    · have p10 : asgS 7 (ownE (lstF (var 5))) (Lsl (.d (scrD ns)) n M f many none none (some (.d (.tuple (shL many g)))) (some (.d (.tuple (shL many g1))))) [.lst (row4.map .d)] = .nx (Lsl (.d (scrD ns)) n M f many (some (.loc 1)) none (some (.d (.tuple (shL many g)))) (some (.d (.tuple (shL many g1))))) [.lst (row4.map .d), .lst (valsL n f)] := by
        rw [z_asg (z_own (z_lst1 (ds := shL n f) (z_var rfl))), ← vals_eq]
        rfl
      have p11 : whS fuel (asB (bin ltI (blt lenD (consL (var 7) nilL)) (var 6))) (exS (metE appM (var 7) (consL (ixE (callP F__law_values (consL (var 3) (consL (tupE (consL (cst (.int 0)) nilL)) (consL (slE (var 7) (someO (bin subD (blt lenD (consL (var 7) nilL)) (var 2))) noO) nilL)))) (cst (.int 0))) nilL))) (Lsl (.d (scrD ns)) n M f many (some (.loc 1)) none (some (.d (.tuple (shL many g)))) (some (.d (.tuple (shL many g1))))) [.lst (row4.map .d), .lst (valsL n f)] = .nx (Lsl (.d (scrD ns)) n M f many (some (.loc 1)) none (some (.d (.tuple (shL many g)))) (some (.d (.tuple (shL many g1))))) [.lst (row4.map .d), .lst (valsL (n + (many - n)) g)] := by
        have := due_go (sc := .d (scrD ns)) (moved := .d (webD n (movM n M))) (st := .tuple (shL n f)) (told := none) (found := some (.d (.tuple (shL many g)))) (whole := some (.d (.tuple (shL many g1)))) (r := .lst (row4.map .d)) h1 (by omega) hs (by decide) (many := many) (many - n) 0 fuel f g (by unfold fuel; omega) (by omega) (by omega) (by omega) (fun j hj => startOk_ps (hf j (by omega)).1) eg
        rw [Nat.add_zero] at this
        exact this
      have hw : ∀ i, i < many → (g1 i).2 = 1 := fun i hi => whole_ok h1 h5 hs hst hb (k := many - n) (by omega) eg1 i (by omega)
      have p12 := ask_ok (sc := .d (scrD ns)) (M := M) (f := f) (r := .lst (row4.map .d)) (g := g) (g1 := g1) (n := n) (many := many) (k := many - n) (by omega) (by omega) hw
      have po := out_ok (sc := .d (scrD ns)) (n := n) (M := M) (f := f) (many := many) (due := some (.loc 1)) (t := none) (fo := some (.d (.tuple (shL many g)))) (w := some (.d (.tuple (shL many g1)))) (S := [.lst (row4.map .d), .lst (valsL (n + (many - n)) g)]) h1 h5 hs
      by_cases co : many < n + 1 ∨ 2 * n < many
      · rw [decide_eq_true co] at po
        exact z_runP (r := .rt (.bool true) [.lst (row4.map .d), .lst (valsL (n + (many - n)) g)]) rfl (z_seq p1 (z_seq p2 (z_seq p3 (z_seq p4 (z_seq p5 (z_seq p6 (z_seq p7 (z_seq p8 (z_seq p9 (z_seq p10 (z_seq p11 (z_seq p12 (z_seqR (z_ifT po (z_rt rfl))))))))))))))) rfl
      · rw [decide_eq_false co] at po
        have p14 := end_ok (sc := .d (scrD ns)) (g := g) (f := f) (due := some (.loc 1)) (w := some (.d (.tuple (shL many g1)))) (S := [.lst (row4.map .d), .lst (valsL (n + (many - n)) g)]) h1 h5 hs hb hst hf (many := many) (by omega) (by omega) eg
        exact z_runP (r := .rt (.bool true) [.lst (row4.map .d), .lst (valsL (n + (many - n)) g)]) rfl (z_seq p1 (z_seq p2 (z_seq p3 (z_seq p4 (z_seq p5 (z_seq p6 (z_seq p7 (z_seq p8 (z_seq p9 (z_seq p10 (z_seq p11 (z_seq p12 (z_seq (z_ifF po z_nop) p14))))))))))))) rfl
end K28
set_option Elab.async false
set_option linter.all false
set_option maxRecDepth 100000
set_option maxHeartbeats 4000000
namespace K28
open PySem PySem.Spec PyProof.Rows L2 DV
def fa : List He.Fa := [.free "int", .free "len", .free "range", .free "tuple", .free "isinstance", .free "bool", .int "MOST_ARROWS" 1000, .free "all", .int "MOST_NODES" 6, .glo "BadWeb", .exc "BadWeb", .int "MOST_TURNS" 200, .glo "BadRow", .exc "BadRow", .int "MOST_TOLD" 1000000, .glo "BadShares", .exc "BadShares", .free "abs", .free "max", .int "MOST_VALUE" 1000000000000000000000000000000000000000000000000000000000000000000000000000000000000000000000000000000000000000000000000000000000000000000000000000000000000000000000000000000000000000000000000000000000000000000000000000000000000000000000000000000000000000000000000000000000000000000000000000000000000, .glo "TooGreat", .exc "TooGreat", .glo "WHOLE", .free "zip", .free "any", .free "list", .free "dict", .free "sorted", .free "str", .glo "NotSteady", .exc "NotSteady", .int "MOST_STEPS" 60, .glo "BadTimes", .exc "BadTimes", .glo "NotSteady", .exm "NotSteady" "NotSteady" true, .glo "TooGreat", .exm "TooGreat" "TooGreat" true, .glo "_law_taken", .glo "_law_pick", .glo "_law_named", .glo "is_integer", .glo "is_from", .glo "is_line", .glo "is_web", .glo "need_web", .glo "is_row", .glo "need_row", .glo "common", .glo "is_start", .glo "need_shares", .glo "share", .glo "times_shares", .glo "need_short", .glo "product_of_shares", .glo "frozen", .glo "added_by", .glo "behind_turn", .glo "need_small", .glo "turn_of", .glo "plus_shares", .glo "turned_share", .glo "values_behind", .glo "values", .glo "_law_turn", .glo "_law_alike", .glo "_law_share", .glo "_law_starts", .glo "with_names", .glo "is_steady_web", .glo "steady_row", .glo "_law_steady", .glo "_law_web", .glo "is_steady", .glo "_law_times", .glo "_law_plus", .glo "_law_values", .glo "law"]
def d__law_taken : He.DefD := ⟨("_law_taken", none), "_law_taken", "_law_taken", defArgs s__law_taken, defBody s__law_taken, defScope s__law_taken, [], []⟩
def d__law_pick : He.DefD := ⟨("_law_pick", none), "_law_pick", "_law_pick", defArgs s__law_pick, defBody s__law_pick, defScope s__law_pick, [], []⟩
def d__law_named : He.DefD := ⟨("_law_named", none), "_law_named", "_law_named", defArgs s__law_named, defBody s__law_named, defScope s__law_named, [], []⟩
def d_is_integer : He.DefD := ⟨("is_integer", none), "is_integer", "is_integer", defArgs s_is_integer, defBody s_is_integer, defScope s_is_integer, [], []⟩
def d_is_from : He.DefD := ⟨("is_from", none), "is_from", "is_from", defArgs s_is_from, defBody s_is_from, defScope s_is_from, [], []⟩
def d_is_line : He.DefD := ⟨("is_line", none), "is_line", "is_line", defArgs s_is_line, defBody s_is_line, defScope s_is_line, [], []⟩
def d_is_web : He.DefD := ⟨("is_web", none), "is_web", "is_web", defArgs s_is_web, defBody s_is_web, defScope s_is_web, [], []⟩
def d_need_web : He.DefD := ⟨("need_web", none), "need_web", "need_web", defArgs s_need_web, defBody s_need_web, defScope s_need_web, [], []⟩
def d_is_row : He.DefD := ⟨("is_row", none), "is_row", "is_row", defArgs s_is_row, defBody s_is_row, defScope s_is_row, [], []⟩
def d_need_row : He.DefD := ⟨("need_row", none), "need_row", "need_row", defArgs s_need_row, defBody s_need_row, defScope s_need_row, [], []⟩
def d_common : He.DefD := ⟨("common", none), "common", "common", defArgs s_common, defBody s_common, defScope s_common, [], []⟩
def d_is_start : He.DefD := ⟨("is_start", none), "is_start", "is_start", defArgs s_is_start, defBody s_is_start, defScope s_is_start, [], []⟩
def d_need_shares : He.DefD := ⟨("need_shares", none), "need_shares", "need_shares", defArgs s_need_shares, defBody s_need_shares, defScope s_need_shares, [], []⟩
def d_share : He.DefD := ⟨("share", none), "share", "share", defArgs s_share, defBody s_share, defScope s_share, [], []⟩
def d_times_shares : He.DefD := ⟨("times_shares", none), "times_shares", "times_shares", defArgs s_times_shares, defBody s_times_shares, defScope s_times_shares, [], []⟩
def d_need_short : He.DefD := ⟨("need_short", none), "need_short", "need_short", defArgs s_need_short, defBody s_need_short, defScope s_need_short, [], []⟩
def d_product_of_shares : He.DefD := ⟨("product_of_shares", none), "product_of_shares", "product_of_shares", defArgs s_product_of_shares, defBody s_product_of_shares, defScope s_product_of_shares, [], []⟩
def d_frozen : He.DefD := ⟨("frozen", none), "frozen", "frozen", defArgs s_frozen, defBody s_frozen, defScope s_frozen, [], []⟩
def d_added_by : He.DefD := ⟨("added_by", none), "added_by", "added_by", defArgs s_added_by, defBody s_added_by, defScope s_added_by, [], []⟩
def d_behind_turn : He.DefD := ⟨("behind_turn", none), "behind_turn", "behind_turn", defArgs s_behind_turn, defBody s_behind_turn, defScope s_behind_turn, [], []⟩
def d_need_small : He.DefD := ⟨("need_small", none), "need_small", "need_small", defArgs s_need_small, defBody s_need_small, defScope s_need_small, [], []⟩
def d_turn_of : He.DefD := ⟨("turn_of", none), "turn_of", "turn_of", defArgs s_turn_of, defBody s_turn_of, defScope s_turn_of, [], []⟩
def d_plus_shares : He.DefD := ⟨("plus_shares", none), "plus_shares", "plus_shares", defArgs s_plus_shares, defBody s_plus_shares, defScope s_plus_shares, [], []⟩
def d_turned_share : He.DefD := ⟨("turned_share", none), "turned_share", "turned_share", defArgs s_turned_share, defBody s_turned_share, defScope s_turned_share, [], []⟩
def d_values_behind : He.DefD := ⟨("values_behind", none), "values_behind", "values_behind", defArgs s_values_behind, defBody s_values_behind, defScope s_values_behind, [], []⟩
def d_values : He.DefD := ⟨("values", none), "values", "values", defArgs s_values, defBody s_values, defScope s_values, [], []⟩
def d__law_turn : He.DefD := ⟨("_law_turn", none), "_law_turn", "_law_turn", defArgs s__law_turn, defBody s__law_turn, defScope s__law_turn, [], []⟩
def d__law_alike : He.DefD := ⟨("_law_alike", none), "_law_alike", "_law_alike", defArgs s__law_alike, defBody s__law_alike, defScope s__law_alike, [], []⟩
def d__law_share : He.DefD := ⟨("_law_share", none), "_law_share", "_law_share", defArgs s__law_share, defBody s__law_share, defScope s__law_share, [], []⟩
def d__law_starts : He.DefD := ⟨("_law_starts", none), "_law_starts", "_law_starts", defArgs s__law_starts, defBody s__law_starts, defScope s__law_starts, [], []⟩
def d_with_names : He.DefD := ⟨("with_names", none), "with_names", "with_names", defArgs s_with_names, defBody s_with_names, defScope s_with_names, [], []⟩
def d_is_steady_web : He.DefD := ⟨("is_steady_web", none), "is_steady_web", "is_steady_web", defArgs s_is_steady_web, defBody s_is_steady_web, defScope s_is_steady_web, [], []⟩
def d_steady_row : He.DefD := ⟨("steady_row", none), "steady_row", "steady_row", defArgs s_steady_row, defBody s_steady_row, defScope s_steady_row, [], []⟩
def d__law_steady : He.DefD := ⟨("_law_steady", none), "_law_steady", "_law_steady", defArgs s__law_steady, defBody s__law_steady, defScope s__law_steady, [], []⟩
def d__law_web : He.DefD := ⟨("_law_web", none), "_law_web", "_law_web", defArgs s__law_web, defBody s__law_web, defScope s__law_web, [], []⟩
def d_is_steady : He.DefD := ⟨("is_steady", none), "is_steady", "is_steady", defArgs s_is_steady, defBody s_is_steady, defScope s_is_steady, [], []⟩
def d__law_times : He.DefD := ⟨("_law_times", none), "_law_times", "_law_times", defArgs s__law_times, defBody s__law_times, defScope s__law_times, [], []⟩
def d__law_plus : He.DefD := ⟨("_law_plus", none), "_law_plus", "_law_plus", defArgs s__law_plus, defBody s__law_plus, defScope s__law_plus, [], []⟩
def d__law_values : He.DefD := ⟨("_law_values", none), "_law_values", "_law_values", defArgs s__law_values, defBody s__law_values, defScope s__law_values, [], []⟩
def d_law : He.DefD := ⟨("law", none), "law", "law", defArgs s_law, defBody s_law, defScope s_law, [], []⟩
def fn : List He.DefD := [d__law_taken, d__law_pick, d__law_named, d_is_integer, d_is_from, d_is_line, d_is_web, d_need_web, d_is_row, d_need_row, d_common, d_is_start, d_need_shares, d_share, d_times_shares, d_need_short, d_product_of_shares, d_frozen, d_added_by, d_behind_turn, d_need_small, d_turn_of, d_plus_shares, d_turned_share, d_values_behind, d_values, d__law_turn, d__law_alike, d__law_share, d__law_starts, d_with_names, d_is_steady_web, d_steady_row, d__law_steady, d__law_web, d_is_steady, d__law_times, d__law_plus, d__law_values, d_law]
def ts : List (Str × List Int) := [("WHOLE", [1, 1])]
theorem facts {P : Program} {w : World} {K : PySem.W.Frag} {h : Heap} {mg : Str → Option Value} {f : Addr} (X : K.In h) (G : h.Ns mainGlobals mg) (hfa : mg ("law" : Str) = some (.ref f)) (cu : SaysU fa fn ts K) :
    ∃ fd : FuncData, (∀ (s : Shared) (v : Value), BindsTo s fd ⟨[v], []⟩ [("_law_script", v)]) ∧ ∀ base : Heap, K.In base → base.Ns mainGlobals mg → FnOk P w K mg base (L2.CX P w) 9 f fd ["_law_script"] (spP K mg 1 F_law) := by
  have c := cu.d
  have T : Tx K mg := ⟨He.free_ok X G (c.fact 0 (f := .free "int") rfl), He.free_ok X G (c.fact 1 (f := .free "len") rfl), He.free_ok X G (c.fact 2 (f := .free "range") rfl), He.free_ok X G (c.fact 3 (f := .free "tuple") rfl), He.free_ok X G (c.fact 4 (f := .free "isinstance") rfl), He.free_ok X G (c.fact 5 (f := .free "bool") rfl), He.int_ok X G (c.fact 6 (f := .int "MOST_ARROWS" 1000) rfl), He.free_ok X G (c.fact 7 (f := .free "all") rfl), He.int_ok X G (c.fact 8 (f := .int "MOST_NODES" 6) rfl), ⟨_, He.glo_ok X G (c.fact 9 (f := .glo "BadWeb") rfl), He.exc_ok (c.fact 10 (f := .exc "BadWeb") rfl)⟩, He.int_ok X G (c.fact 11 (f := .int "MOST_TURNS" 200) rfl), ⟨_, He.glo_ok X G (c.fact 12 (f := .glo "BadRow") rfl), He.exc_ok (c.fact 13 (f := .exc "BadRow") rfl)⟩, He.int_ok X G (c.fact 14 (f := .int "MOST_TOLD" 1000000) rfl), ⟨_, He.glo_ok X G (c.fact 15 (f := .glo "BadShares") rfl), He.exc_ok (c.fact 16 (f := .exc "BadShares") rfl)⟩, He.free_ok X G (c.fact 17 (f := .free "abs") rfl), He.free_ok X G (c.fact 18 (f := .free "max") rfl), He.int_ok X G (c.fact 19 (f := .int "MOST_VALUE" 1000000000000000000000000000000000000000000000000000000000000000000000000000000000000000000000000000000000000000000000000000000000000000000000000000000000000000000000000000000000000000000000000000000000000000000000000000000000000000000000000000000000000000000000000000000000000000000000000000000000000) rfl), ⟨_, He.glo_ok X G (c.fact 20 (f := .glo "TooGreat") rfl), He.exc_ok (c.fact 21 (f := .exc "TooGreat") rfl)⟩, ⟨_, He.glo_ok X G (c.fact 22 (f := .glo "WHOLE") rfl), fun H => cu.tup 0 rfl H⟩, He.free_ok X G (c.fact 23 (f := .free "zip") rfl), He.free_ok X G (c.fact 24 (f := .free "any") rfl), He.free_ok X G (c.fact 25 (f := .free "list") rfl), He.free_ok X G (c.fact 26 (f := .free "dict") rfl), He.free_ok X G (c.fact 27 (f := .free "sorted") rfl), He.free_ok X G (c.fact 28 (f := .free "str") rfl), ⟨_, He.glo_ok X G (c.fact 29 (f := .glo "NotSteady") rfl), He.exc_ok (c.fact 30 (f := .exc "NotSteady") rfl)⟩, He.int_ok X G (c.fact 31 (f := .int "MOST_STEPS" 60) rfl), ⟨_, He.glo_ok X G (c.fact 32 (f := .glo "BadTimes") rfl), He.exc_ok (c.fact 33 (f := .exc "BadTimes") rfl)⟩, ⟨_, He.glo_ok X G (c.fact 34 (f := .glo "NotSteady") rfl), He.exm_ok (c.fact 35 (f := .exm "NotSteady" "NotSteady" true) rfl)⟩, ⟨_, He.glo_ok X G (c.fact 36 (f := .glo "TooGreat") rfl), He.exm_ok (c.fact 37 (f := .exm "TooGreat" "TooGreat" true) rfl)⟩⟩
  obtain ⟨fd__law_taken, E__law_taken⟩ := c.def_ 0 (d := d__law_taken) rfl
  have g__law_taken := He.glo_ok X G (c.fact 38 (f := .glo "_law_taken") rfl)
  obtain ⟨fd__law_pick, E__law_pick⟩ := c.def_ 1 (d := d__law_pick) rfl
  have g__law_pick := He.glo_ok X G (c.fact 39 (f := .glo "_law_pick") rfl)
  obtain ⟨fd__law_named, E__law_named⟩ := c.def_ 2 (d := d__law_named) rfl
  have g__law_named := He.glo_ok X G (c.fact 40 (f := .glo "_law_named") rfl)
  obtain ⟨fd_is_integer, E_is_integer⟩ := c.def_ 3 (d := d_is_integer) rfl
  have g_is_integer := He.glo_ok X G (c.fact 41 (f := .glo "is_integer") rfl)
  obtain ⟨fd_is_from, E_is_from⟩ := c.def_ 4 (d := d_is_from) rfl
  have g_is_from := He.glo_ok X G (c.fact 42 (f := .glo "is_from") rfl)
  obtain ⟨fd_is_line, E_is_line⟩ := c.def_ 5 (d := d_is_line) rfl
  have g_is_line := He.glo_ok X G (c.fact 43 (f := .glo "is_line") rfl)
  obtain ⟨fd_is_web, E_is_web⟩ := c.def_ 6 (d := d_is_web) rfl
  have g_is_web := He.glo_ok X G (c.fact 44 (f := .glo "is_web") rfl)
  obtain ⟨fd_need_web, E_need_web⟩ := c.def_ 7 (d := d_need_web) rfl
  have g_need_web := He.glo_ok X G (c.fact 45 (f := .glo "need_web") rfl)
  obtain ⟨fd_is_row, E_is_row⟩ := c.def_ 8 (d := d_is_row) rfl
  have g_is_row := He.glo_ok X G (c.fact 46 (f := .glo "is_row") rfl)
  obtain ⟨fd_need_row, E_need_row⟩ := c.def_ 9 (d := d_need_row) rfl
  have g_need_row := He.glo_ok X G (c.fact 47 (f := .glo "need_row") rfl)
  obtain ⟨fd_common, E_common⟩ := c.def_ 10 (d := d_common) rfl
  have g_common := He.glo_ok X G (c.fact 48 (f := .glo "common") rfl)
  obtain ⟨fd_is_start, E_is_start⟩ := c.def_ 11 (d := d_is_start) rfl
  have g_is_start := He.glo_ok X G (c.fact 49 (f := .glo "is_start") rfl)
  obtain ⟨fd_need_shares, E_need_shares⟩ := c.def_ 12 (d := d_need_shares) rfl
  have g_need_shares := He.glo_ok X G (c.fact 50 (f := .glo "need_shares") rfl)
  obtain ⟨fd_share, E_share⟩ := c.def_ 13 (d := d_share) rfl
  have g_share := He.glo_ok X G (c.fact 51 (f := .glo "share") rfl)
  obtain ⟨fd_times_shares, E_times_shares⟩ := c.def_ 14 (d := d_times_shares) rfl
  have g_times_shares := He.glo_ok X G (c.fact 52 (f := .glo "times_shares") rfl)
  obtain ⟨fd_need_short, E_need_short⟩ := c.def_ 15 (d := d_need_short) rfl
  have g_need_short := He.glo_ok X G (c.fact 53 (f := .glo "need_short") rfl)
  obtain ⟨fd_product_of_shares, E_product_of_shares⟩ := c.def_ 16 (d := d_product_of_shares) rfl
  have g_product_of_shares := He.glo_ok X G (c.fact 54 (f := .glo "product_of_shares") rfl)
  obtain ⟨fd_frozen, E_frozen⟩ := c.def_ 17 (d := d_frozen) rfl
  have g_frozen := He.glo_ok X G (c.fact 55 (f := .glo "frozen") rfl)
  obtain ⟨fd_added_by, E_added_by⟩ := c.def_ 18 (d := d_added_by) rfl
  have g_added_by := He.glo_ok X G (c.fact 56 (f := .glo "added_by") rfl)
  obtain ⟨fd_behind_turn, E_behind_turn⟩ := c.def_ 19 (d := d_behind_turn) rfl
  have g_behind_turn := He.glo_ok X G (c.fact 57 (f := .glo "behind_turn") rfl)
  obtain ⟨fd_need_small, E_need_small⟩ := c.def_ 20 (d := d_need_small) rfl
  have g_need_small := He.glo_ok X G (c.fact 58 (f := .glo "need_small") rfl)
  obtain ⟨fd_turn_of, E_turn_of⟩ := c.def_ 21 (d := d_turn_of) rfl
  have g_turn_of := He.glo_ok X G (c.fact 59 (f := .glo "turn_of") rfl)
  obtain ⟨fd_plus_shares, E_plus_shares⟩ := c.def_ 22 (d := d_plus_shares) rfl
  have g_plus_shares := He.glo_ok X G (c.fact 60 (f := .glo "plus_shares") rfl)
  obtain ⟨fd_turned_share, E_turned_share⟩ := c.def_ 23 (d := d_turned_share) rfl
  have g_turned_share := He.glo_ok X G (c.fact 61 (f := .glo "turned_share") rfl)
  obtain ⟨fd_values_behind, E_values_behind⟩ := c.def_ 24 (d := d_values_behind) rfl
  have g_values_behind := He.glo_ok X G (c.fact 62 (f := .glo "values_behind") rfl)
  obtain ⟨fd_values, E_values⟩ := c.def_ 25 (d := d_values) rfl
  have g_values := He.glo_ok X G (c.fact 63 (f := .glo "values") rfl)
  obtain ⟨fd__law_turn, E__law_turn⟩ := c.def_ 26 (d := d__law_turn) rfl
  have g__law_turn := He.glo_ok X G (c.fact 64 (f := .glo "_law_turn") rfl)
  obtain ⟨fd__law_alike, E__law_alike⟩ := c.def_ 27 (d := d__law_alike) rfl
  have g__law_alike := He.glo_ok X G (c.fact 65 (f := .glo "_law_alike") rfl)
  obtain ⟨fd__law_share, E__law_share⟩ := c.def_ 28 (d := d__law_share) rfl
  have g__law_share := He.glo_ok X G (c.fact 66 (f := .glo "_law_share") rfl)
  obtain ⟨fd__law_starts, E__law_starts⟩ := c.def_ 29 (d := d__law_starts) rfl
  have g__law_starts := He.glo_ok X G (c.fact 67 (f := .glo "_law_starts") rfl)
  obtain ⟨fd_with_names, E_with_names⟩ := c.def_ 30 (d := d_with_names) rfl
  have g_with_names := He.glo_ok X G (c.fact 68 (f := .glo "with_names") rfl)
  obtain ⟨fd_is_steady_web, E_is_steady_web⟩ := c.def_ 31 (d := d_is_steady_web) rfl
  have g_is_steady_web := He.glo_ok X G (c.fact 69 (f := .glo "is_steady_web") rfl)
  obtain ⟨fd_steady_row, E_steady_row⟩ := c.def_ 32 (d := d_steady_row) rfl
  have g_steady_row := He.glo_ok X G (c.fact 70 (f := .glo "steady_row") rfl)
  obtain ⟨fd__law_steady, E__law_steady⟩ := c.def_ 33 (d := d__law_steady) rfl
  have g__law_steady := He.glo_ok X G (c.fact 71 (f := .glo "_law_steady") rfl)
  obtain ⟨fd__law_web, E__law_web⟩ := c.def_ 34 (d := d__law_web) rfl
  have g__law_web := He.glo_ok X G (c.fact 72 (f := .glo "_law_web") rfl)
  obtain ⟨fd_is_steady, E_is_steady⟩ := c.def_ 35 (d := d_is_steady) rfl
  have g_is_steady := He.glo_ok X G (c.fact 73 (f := .glo "is_steady") rfl)
  obtain ⟨fd__law_times, E__law_times⟩ := c.def_ 36 (d := d__law_times) rfl
  have g__law_times := He.glo_ok X G (c.fact 74 (f := .glo "_law_times") rfl)
  obtain ⟨fd__law_plus, E__law_plus⟩ := c.def_ 37 (d := d__law_plus) rfl
  have g__law_plus := He.glo_ok X G (c.fact 75 (f := .glo "_law_plus") rfl)
  obtain ⟨fd__law_values, E__law_values⟩ := c.def_ 38 (d := d__law_values) rfl
  have g__law_values := He.glo_ok X G (c.fact 76 (f := .glo "_law_values") rfl)
  obtain ⟨fd_law, E_law⟩ := c.def_ 39 (d := d_law) rfl
  have g_law := He.glo_ok X G (c.fact 77 (f := .glo "law") rfl)
  cases hfa.symm.trans g_law
  refine ⟨fd_law, fun s v => FunD.bindsA (ps := ["_law_script"]) E_law (fun _ _ _ _ _ _ us hl => match us, hl with | [_], _ => rfl) s [v] rfl, fun base _ _ => ?_⟩
  have C__law_taken : CalR P w K mg base "_law_taken" 1 ["_law_row", "_law_many"] F__law_taken := ok__law_taken T  E__law_taken g__law_taken
  have C__law_pick : CalR P w K mg base "_law_pick" 2 ["_law_row", "_law_things"] F__law_pick := ok__law_pick T C__law_taken E__law_pick g__law_pick
  have C__law_named : CalP P w K mg base "_law_named" 1 ["_law_web_here", "_law_order"] F__law_named := ok__law_named T  E__law_named g__law_named
  have C_is_integer : CalP P w K mg base "is_integer" 1 ["value"] F_is_integer := ok_is_integer T  E_is_integer g_is_integer
  have C_is_from : CalP P w K mg base "is_from" 2 ["value", "low", "high"] F_is_from := ok_is_from T C_is_integer E_is_from g_is_from
  have C_is_line : CalP P w K mg base "is_line" 3 ["n", "value"] F_is_line := ok_is_line T C_is_from E_is_line g_is_line
  have C_is_web : CalP P w K mg base "is_web" 4 ["value"] F_is_web := ok_is_web T C_is_line E_is_web g_is_web
  have C_need_web : CalP P w K mg base "need_web" 5 ["value"] F_need_web := ok_need_web T C_is_web E_need_web g_need_web
  have C_is_row : CalP P w K mg base "is_row" 3 ["n", "value"] F_is_row := ok_is_row T C_is_from E_is_row g_is_row
  have C_need_row : CalP P w K mg base "need_row" 6 ["web", "value"] F_need_row := ok_need_row T C_need_web C_is_row E_need_row g_need_row
  have C_common : CalP P w K mg base "common" 1 ["one", "other"] F_common := ok_common T  E_common g_common
  have C_is_start : CalP P w K mg base "is_start" 3 ["value"] F_is_start := ok_is_start T C_is_from C_common C_is_integer E_is_start g_is_start
  have C_need_shares : CalP P w K mg base "need_shares" 4 ["n", "value"] F_need_shares := ok_need_shares T C_is_start E_need_shares g_need_shares
  have C_share : CalP P w K mg base "share" 2 ["top", "bottom"] F_share := ok_share T C_common E_share g_share
  have C_times_shares : CalP P w K mg base "times_shares" 3 ["one", "other"] F_times_shares := ok_times_shares T C_share E_times_shares g_times_shares
  have C_need_short : CalP P w K mg base "need_short" 1 ["one"] F_need_short := ok_need_short T  E_need_short g_need_short
  have C_product_of_shares : CalP P w K mg base "product_of_shares" 4 ["shares", "powers"] F_product_of_shares := ok_product_of_shares T C_times_shares C_need_short E_product_of_shares g_product_of_shares
  have C_frozen : CalP P w K mg base "frozen" 1 ["table"] F_frozen := ok_frozen T  E_frozen g_frozen
  have C_added_by : CalP P w K mg base "added_by" 1 ["left", "right"] F_added_by := ok_added_by T  E_added_by g_added_by
  have C_behind_turn : CalP P w K mg base "behind_turn" 2 ["web", "x"] F_behind_turn := ok_behind_turn T C_frozen C_added_by E_behind_turn g_behind_turn
  have C_need_small : CalP P w K mg base "need_small" 1 ["table"] F_need_small := ok_need_small T  E_need_small g_need_small
  have C_turn_of : CalP P w K mg base "turn_of" 3 ["web", "x"] F_turn_of := ok_turn_of T C_behind_turn C_need_small E_turn_of g_turn_of
  have C_plus_shares : CalP P w K mg base "plus_shares" 3 ["one", "other"] F_plus_shares := ok_plus_shares T C_share E_plus_shares g_plus_shares
  have C_turned_share : CalP P w K mg base "turned_share" 1 ["one"] F_turned_share := ok_turned_share T  E_turned_share g_turned_share
  have C_values_behind : CalP P w K mg base "values_behind" 5 ["web", "row", "shares"] F_values_behind := ok_values_behind T C_product_of_shares C_times_shares C_need_short C_turn_of C_plus_shares C_turned_share E_values_behind g_values_behind
  have C_values : CalP P w K mg base "values" 7 ["web", "row", "shares"] F_values := ok_values T C_need_row C_need_shares C_values_behind E_values g_values
  have C__law_turn : CalP P w K mg base "_law_turn" 1 ["_law_web_here", "_law_x"] F__law_turn := ok__law_turn T  E__law_turn g__law_turn
  have C__law_alike : CalP P w K mg base "_law_alike" 8 ["_law_found", "_law_due"] (F__law_alike 8) := ok__law_alike T  E__law_alike g__law_alike 8
  have C__law_share : CalP P w K mg base "_law_share" 1 ["_law_top", "_law_bottom"] F__law_share := ok__law_share T  E__law_share g__law_share
  have C__law_starts : CalR P w K mg base "_law_starts" 2 ["_law_row", "_law_n"] F__law_starts := ok__law_starts T C__law_share C__law_taken E__law_starts g__law_starts
  have C_with_names : CalP P w K mg base "with_names" 2 ["web", "order"] F_with_names := ok_with_names T C_frozen E_with_names g_with_names
  have C_is_steady_web : CalP P w K mg base "is_steady_web" 3 ["web"] F_is_steady_web := ok_is_steady_web T C_with_names C_behind_turn E_is_steady_web g_is_steady_web
  have C_steady_row : CalP P w K mg base "steady_row" 6 ["web", "shares", "many"] F_steady_row := ok_steady_row T C_need_web C_need_shares C_is_steady_web C_is_from C_values_behind E_steady_row g_steady_row
  have C__law_steady : CalR P w K mg base "_law_steady" 3 ["_law_row", "_law_n"] F__law_steady := ok__law_steady T C__law_pick E__law_steady g__law_steady
  have C__law_web : CalR P w K mg base "_law_web" 3 ["_law_row", "_law_most", "_law_strong"] F__law_web := ok__law_web T C__law_taken C__law_pick E__law_web g__law_web
  have C_is_steady : CalP P w K mg base "is_steady" 6 ["web"] F_is_steady := ok_is_steady T C_need_web C_is_steady_web E_is_steady g_is_steady
  have C__law_times : CalP P w K mg base "_law_times" 2 ["_law_one", "_law_other"] F__law_times := ok__law_times T C__law_share E__law_times g__law_times
  have C__law_plus : CalP P w K mg base "_law_plus" 2 ["_law_one", "_law_other"] F__law_plus := ok__law_plus T C__law_share E__law_plus g__law_plus
  have C__law_values : CalP P w K mg base "_law_values" 3 ["_law_web_here", "_law_told", "_law_starts_here"] F__law_values := ok__law_values T C__law_times C__law_turn C__law_plus E__law_values g__law_values
  exact fn_okP E_law sc_law fun cdv A outer s H E hr => b_law T C__law_pick C__law_named C_values C__law_taken C__law_turn C__law_alike C__law_starts C_steady_row C__law_steady C__law_web C_is_steady C_is_web C__law_values hr
abbrev Rw : PySem.W.OpenRow := PySem.W.OpenLaw.row PySem.Challenge.rw_dartwebs_k28_whole_steady
abbrev hk : PySem.W.Hook := hookU 5 fa fn ts
def ob (s : PySem.W.SharedT) : AlU := obsUG 5 fa fn ts (HandSHeadRun.getT s)
theorem ob_eq (s : PySem.W.SharedT) : ob s = hk.obs s.abs := obsUG_eq (HandSHeadRun.getT_eq s)
def loose : List PySem.Str := "__name__" :: "WebError" :: "BadWeb" :: "TooGreat" :: "BadRow" :: "BadShares" :: "NotSteady" :: "BadTimes" :: "MOST_NODES" :: "MOST_ARROWS" :: "MOST_TURNS" :: "is_integer" :: "is_from" :: "is_line" :: "is_web" :: "need_web" :: "frozen" :: "added_by" :: "behind_turn" :: "need_small" :: "turn_of" :: "is_row" :: "need_row" :: "with_names" :: "MOST_TOLD" :: "MOST_VALUE" :: "WHOLE" :: "common" :: "share" :: "plus_shares" :: "times_shares" :: "turned_share" :: "is_start" :: "need_shares" :: "need_short" :: "product_of_shares" :: "values_behind" :: "values" :: "MOST_STEPS" :: "is_steady_web" :: "is_steady" :: "steady_row" :: "_law_taken" :: "_law_pick" :: "_law_alike" :: "_law_web" :: "_law_turn" :: "_law_named" :: "_law_share" :: "_law_times" :: "_law_plus" :: "_law_starts" :: "_law_values" :: "_law_steady" :: []
theorem run (w : World) : HandSHeadRun.RunEq Rw (PySem.W.view Rw.prog [59]) hk ob 4000 loose w := by
  intro os
  kernel_rfl
end K28
open PySem PySem.W PySem.Calls PyProof.Rows in
set_option maxHeartbeats 0 in
theorem PySem.Challenge.cw_dartwebs_k28_whole_steady_holds : PySem.Challenge.rw_dartwebs_k28_whole_steady.Holds := by
  w_on; o_law
  refine HandSHeadRun.head_any (r := OpenLaw.row PySem.Challenge.rw_dartwebs_k28_whole_steady) (q := view (OpenLaw.row PySem.Challenge.rw_dartwebs_k28_whole_steady).prog [59]) (H := K28.hk) (ob := K28.ob) (M := 4000) (loose := K28.loose) (d := HandSHeadRun.topDef (OpenLaw.row PySem.Challenge.rw_dartwebs_k28_whole_steady).prog 59) (kwd := []) K28.ob_eq
    (by kernel_rfl) (fun s => by kernel_rfl) K28.run (by kernel_rfl) (by kernel_rfl) (by kernel_rfl) (by rfl) (by first | assumption | decide +kernel) (by decide +kernel) ⟨rfl, rfl, rfl, rfl, rfl, by decide +kernel⟩ ?hw ?hc
  case hw => w_witness2
  case hc =>
    refine DV.walk_law (l := PySem.Challenge.rw_dartwebs_k28_whole_steady) (n := 63) (k := 9) (x := "_law_script") rfl (by decide) (by kernel_rfl) ⟨rfl, by decide, by decide⟩ ?F
    intro w mg fa h Y G hmg0
    obtain ⟨K, KX, c⟩ := Y
    have hmg : mg ("law" : PySem.Str) = some (.ref fa) := by
      have e : (HandSHeadRun.topDef (OpenLaw.row PySem.Challenge.rw_dartwebs_k28_whole_steady).prog 59).name = ("law" : PySem.Str) := by kernel_rfl
      rw [← e]
      exact hmg0
    obtain ⟨fd, hb, hF⟩ := K28.facts (P := (PySem.Challenge.rw_dartwebs_k28_whole_steady).prog) (w := w) KX G hmg c
    exact ⟨K, fd, DV.spP K mg 1 K28.F_law, KX, hb, fun H a ns hl hS => DV.law_sp hS (K28.law_true ns hl), hF⟩
