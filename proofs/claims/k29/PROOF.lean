import PyProof.Rows.All
import Wide.All
import OpenK.AllK
import Wide.FinOn
import HandS.ForMost
import HandS.ForExc
import HandS.CallSlots
import HandS.Lambda
import HandS.HeadHook1
import KE.KNestM
import KE.KDictKeyed
import KE.KDictWalk
import KE.KDflt
import HandS.IsInst
import HandS.TupAny
import HandS.Wide
import HandS.Deep
import HandS.Style
import HandS.TupMul
import HandS.Conv
import HandS.ExcCtx
import HandS.Small
import HandS.Defaults
import HandS.HeadEnd
import HandS.Head2
import HandS.HeadHook4
import HandS.Dict
import KE.SortData
import HandS.Zip
import HandS.TryOnly
import HandS.SuiteRaise
import HandS.TupSets
import HandS.SetFor
import HandS.Strs
import HandS.HotCalls
import HandS.Nested
import HandS.HeadWalk
import PyProof.DictMoreH
import KE.KDictDisplayH
import KE.KDictCopyH
import KE.KDictSum
import KE.DataMinMax
import HandS.DictTup
import KE.KDictItemsList
import KE.KDictPairs
import HandS.DictComp
import HandS.More
import KE.GoesZip
import KE.GoesMore
import PySem.Challenge.RW_dartwebs_k29_beats_refused
set_option Elab.async false
set_option linter.all false
set_option maxRecDepth 100000
namespace DV
open PySem PySem.Spec PyProof.Rows L2

/-- a value: data that never changes, or an owned list's place in the store -/
inductive Val where
  | d (x : PyData)
  | loc (k : Nat)
/-- a lambda's words, and its default: none, or a parameter with a whole number -/
structure LamSpec where
  q : Str
  params : Arguments
  body : Expr
  scope : Scope
  df : Option (Str × Int)
/-- what stands in the store and is no list: the code table of the def x; a lambda (the j-th) made where the cells are such -/
inductive Gt where
  | tab (x : Str)
  | lam (j : Nat) (L : LamSpec) (cells : List (Str × Addr))
  | dct (kvs : List (PyData × PyData))
  | dci (kvs : List (Int × Int))
inductive Ob where
  | lst (xs : List Val)
  | frz (ds : List PyData)
  | gh (g : Gt)
structure Exn where
  cls : Str
  fs : List (Str × PyData)
abbrev Sto := List Ob
abbrev Sl := List (Option Val)
inductive R (α : Type) where
  | ok (a : α) (s : Sto)
  | er (e : Exn) (s : Sto)
  | bad
@[inline] def R.bind {α β : Type} (x : R α) (f : α → Sto → R β) : R β := match x with
  | .ok a s => f a s
  | .er e s => .er e s
  | .bad => .bad
abbrev DE := Sl → Sto → R Val

/-! ### data in a heap -/
def keyD : Key → PyData
  | .inl i => .int i
  | .inr x => .str x
/-! ### dicts whose keys are tuples of whole numbers and of such tuples -/
mutual
def keyOf : PyData → Option NestedKey
  | .int i => some (.num i)
  | .tuple ds => (keysOf ds).map .tup
  | _ => none
def keysOf : List PyData → Option (List NestedKey)
  | [] => some []
  | d :: ds => match keyOf d, keysOf ds with
    | some k, some ks => some (k :: ks)
    | _, _ => none
end
mutual
def hashN : NestedKey → Int
  | .num i => hashInt i
  | .tup ks => reduceHash (Builtin.Tuple.tupleHashOf (hashNs ks))
  | .none => 0
  | .text _ => 0
def hashNs : List NestedKey → List Int
  | [] => []
  | k :: ks => hashN k :: hashNs ks
end
/-- an entry as it stands in the dict: key, the key's tuple, value -/
abbrev Ent := NestedKey × Addr × Value
def entN (x : Ent) : DictEntry := ⟨hashN x.1, .ref x.2.1, x.2.2⟩
/-- the object at a is a dict with these entries -/
def DctO (a : Addr) (es : Array DictEntry) (ep : Nat) : HO := .ext fun h => h.DictRaw a es ep
/-- tuples that dict(..) may be asked of: pairs of a tuple and a whole number -/
def sumlike : List PyData → Bool
  | .tuple [.tuple _, .int _] :: _ => true
  | _ => false
/-- the object at a is known to be a tuple without a dict of its own -/
def PlainT (H : Hp) (a : Addr) : Prop := ∃ (o : Obj) (xs : List V), H a = some (.frz o (.tup xs)) ∧ o.dict = none
theorem PlainT.mono {H H' : Hp} {a : Addr} (e : Same H H') (h : PlainT H a) : PlainT H' a := let ⟨o, xs, h1, h2⟩ := h; ⟨o, xs, e _ _ h1, h2⟩
theorem sumlike_ints : ∀ is : List Int, sumlike (is.map .int) = false
  | [] => rfl
  | _ :: _ => rfl
mutual
inductive Dq (K : PySem.W.Frag) (H : Hp) : V → PyData → Prop
  | non : Dq K H .non .none
  | bl (b : Bool) : Dq K H (.bl b) (.bool b)
  | int (i : Int) : Dq K H (.int i) (.int i)
  | str (x : Str) : Dq K H (.str x) (.str x)
  | lst {a : Addr} {xs : List V} {ds : List PyData} : H a = some (.lst xs) → DqAll K H xs ds → Dq K H (.ref a) (.list ds)
  | scr {a : Addr} {xs : List V} {ds : List PyData} : SqL K H a xs → DqAll K H xs ds → Dq K H (.ref a) (.dict [(.none, .list ds)])
  | tup {a : Addr} {xs : List V} {ds : List PyData} : SqT K H a xs → DqAll K H xs ds → (sumlike ds = true → PlainT H a) → Dq K H (.ref a) (.tuple ds)
  | dk {a : Addr} {ks : List Key} {vs : List V} {kvs : List (PyData × PyData)} : H a = some (.dK (ks.zip vs)) → ks.length = vs.length → kvs.map (·.1) = ks.map keyD → DqAll K H vs (kvs.map (·.2)) → Dq K H (.ref a) (.dict kvs)
  | dt {a : Addr} {ks : List (List Key)} {vs : List V} {kvs : List (PyData × PyData)} : H a = some (.dT (ks.zip vs)) → ks.length = vs.length → kvs.map (·.1) = ks.map (fun k => .tuple (k.map keyD)) → DqAll K H vs (kvs.map (·.2)) → Dq K H (.ref a) (.dict kvs)
  | dn {a : Addr} {es : Array DictEntry} {ep : Nat} {xs : List Ent} {vs : List V} {kvs : List (PyData × PyData)} : (a == sysModules) = false → H a = some (DctO a es ep) → es.toList = xs.map entN → kvs.map (fun p => keyOf p.1) = xs.map (fun x => some x.1) → (∀ x ∈ xs, x.1.depth ≤ 8) →
      Vals vs (xs.map fun x => x.2.2) → (xs.map (·.1)).Nodup → DqAll K H (xs.map fun x => .ref x.2.1) (kvs.map (·.1)) → DqAll K H vs (kvs.map (·.2)) → Dq K H (.ref a) (.dict ((.none, .none) :: kvs))
inductive DqAll (K : PySem.W.Frag) (H : Hp) : List V → List PyData → Prop
  | nil : DqAll K H [] []
  | cons {v : V} {vs : List V} {d : PyData} {ds : List PyData} : Dq K H v d → DqAll K H vs ds → DqAll K H (v :: vs) (d :: ds)
end

/-! ### data in a heap that only grows -/
section
variable {K : PySem.W.Frag} {F F' H H' : Hp}
theorem SqT.mono {a : Addr} {xs : List V} (e : Same F F') (h : SqT K F a xs) : SqT K F' a xs := by
  rcases h with (h | ⟨o, h⟩) | h
  · exact .inl (.inl (e _ _ h))
  · exact .inl (.inr ⟨o, e _ _ h⟩)
  · exact .inr h
mutual
theorem Dq.mono' (e : Same F F') {d : PyData} {v : V} (h : Dq K F v d) : Dq K F' v d := match h with
  | .non => .non
  | .bl _ => .bl _
  | .int _ => .int _
  | .str _ => .str _
  | .lst s q => .lst (e _ _ s) (DqAll.mono' e q)
  | .scr s q => .scr (e.seq s) (DqAll.mono' e q)
  | .tup s q p => .tup (SqT.mono e s) (DqAll.mono' e q) fun h => (p h).mono e
  | .dk s l k q => .dk (e _ _ s) l k (DqAll.mono' e q)
  | .dt s l k q => .dt (e _ _ s) l k (DqAll.mono' e q)
  | .dn z s a b c v n q r => .dn z (e _ _ s) a b c v n (DqAll.mono' e q) (DqAll.mono' e r)
theorem DqAll.mono' (e : Same F F') {ds : List PyData} {vs : List V} (h : DqAll K F vs ds) : DqAll K F' vs ds := match h with
  | .nil => .nil
  | .cons a b => .cons (Dq.mono' e a) (DqAll.mono' e b)
end
theorem Dq.mono (e : Same F F') (d : PyData) (v : V) (h : Dq K F v d) : Dq K F' v d := Dq.mono' e h
theorem DqAll.mono (e : Same F F') (ds : List PyData) (vs : List V) (h : DqAll K F vs ds) : DqAll K F' vs ds := DqAll.mono' e h
mutual
theorem Dq.dp {d : PyData} {v : V} (h : Dq K F v d) (c : d.canLay0 = true) : Dp K F v d := match h with
  | .non => .non
  | .bl _ => .bl _
  | .int _ => .int _
  | .str _ => .str _
  | .lst s q => .lst (SqL.of s) (DqAll.dp q (by simpa [PyData.canLay0] using c))
  | .scr s q => by simp [PyData.canLay0] at c
  | .tup s q p => .tup s (DqAll.dp q (by simpa [PyData.canLay0] using c))
  | .dk s l k q => by simp [PyData.canLay0] at c
  | .dt s l k q => by simp [PyData.canLay0] at c
  | .dn z s a b c' v n q r => by simp [PyData.canLay0] at c
theorem DqAll.dp {ds : List PyData} {vs : List V} (h : DqAll K F vs ds) (c : PyData.canLayAll0 ds = true) : DpAll K F vs ds := match h with
  | .nil => .nil
  | .cons a b => by
    simp only [PyData.canLayAll0, Bool.and_eq_true] at c
    exact .cons (Dq.dp a c.1) (DqAll.dp b c.2)
end
theorem DqAll.length : ∀ {ds : List PyData} {vs : List V}, DqAll K F vs ds → vs.length = ds.length
  | [], _, h => by cases h; rfl
  | _ :: ds, _, h => by
    cases h with
    | cons a b => simp [DqAll.length b]
theorem DqAll.append : ∀ {ds es : List PyData} {vs us : List V}, DqAll K F vs ds → DqAll K F us es → DqAll K F (vs ++ us) (ds ++ es)
  | [], _, _, _, h, h' => by cases h; exact h'
  | _ :: _, _, _, _, h, h' => by
    cases h with
    | cons a b => exact .cons a (DqAll.append b h')
theorem DqAll.get : ∀ {ds : List PyData} {vs : List V} {i : Nat} {d : PyData}, DqAll K F vs ds → ds[i]? = some d → ∃ v, vs[i]? = some v ∧ Dq K F v d
  | [], _, _, _, _, e => by simp at e
  | d :: ds, _, 0, x, h, e => by
    cases h with
    | cons a b =>
      simp at e
      subst e
      exact ⟨_, rfl, a⟩
  | d :: ds, _, i + 1, x, h, e => by
    cases h with
    | cons a b =>
      obtain ⟨v, e1, q⟩ := DqAll.get (i := i) (d := x) b (by simpa using e)
      exact ⟨v, by simpa using e1, q⟩
theorem DqAll.take : ∀ {ds : List PyData} {vs : List V} (n : Nat), DqAll K F vs ds → DqAll K F (vs.take n) (ds.take n)
  | _, _, 0, _ => by simp; exact .nil
  | [], _, n + 1, h => by cases h; simp; exact .nil
  | d :: ds, _, n + 1, h => by
    cases h with
    | cons a b => simpa using DqAll.cons a (DqAll.take n b)
theorem DqAll.drop : ∀ {ds : List PyData} {vs : List V} (n : Nat), DqAll K F vs ds → DqAll K F (vs.drop n) (ds.drop n)
  | _, _, 0, h => by simpa using h
  | [], _, n + 1, h => by cases h; simp; exact .nil
  | d :: ds, _, n + 1, h => by
    cases h with
    | cons a b => simpa using DqAll.drop n b
theorem DqAll.ints : ∀ {is : List Int} {vs : List V}, DqAll K F vs (is.map .int) → vs = is.map .int
  | [], _, h => by cases h; rfl
  | i :: is, _, h => by
    cases h with
    | cons a b =>
      cases a
      rw [DqAll.ints b]
      rfl
theorem DqAll.bls : ∀ {is : List Bool} {vs : List V}, DqAll K F vs (is.map .bool) → vs = is.map .bl
  | [], _, h => by cases h; rfl
  | i :: is, _, h => by
    cases h with
    | cons a b =>
      cases a
      rw [DqAll.bls b]
      rfl
theorem DqAll.of_ints : ∀ (is : List Int), DqAll K F (is.map .int) (is.map .int)
  | [] => .nil
  | i :: is => .cons (.int i) (DqAll.of_ints is)
end

/-! ### the store in the heap -/
/-- the code object of the def x -/
def codeOf (K : PySem.W.Frag) (x : Str) : Addr := match K.lookup (He.ga K x) with
  | some ⟨_, _, .func fd, _⟩ => (match fd.code with | .ref c => c | _ => 0)
  | _ => 0
/-- what a lambda of the def x is called -/
def lamN (x : Str) : Str := (x ++ ".<locals>.") ++ "<lambda>"
/-- all tables and code objects stay but for a list -/
theorem tabS_but {H H' : Hp} {P a : Addr} {q : Str} {vs : List V} (t : LamX.TabS H P q) (ha : H a = some (.lst vs)) (e : ∀ b o, b ≠ a → H b = some o → H' b = some o) : LamX.TabS H' P q := by
  obtain ⟨ps, h1, h2, h3⟩ := t
  refine ⟨ps, e _ _ (fun z => by rw [z, ha] at h1; cases h1) h1, h2, fun pos cv hc => ?_⟩
  obtain ⟨c, e1, e2⟩ := h3 pos cv hc
  exact ⟨c, e1, e _ _ (fun z => by rw [z, ha] at e2; cases e2) e2⟩
abbrev fnD (qual : Str) (params : Arguments) (body : Expr) (scope : Scope) (cl : List (Str × Addr)) (pm cdv ct dV doc : Value) : FuncData := PySem.W.kdv_fn "<lambda>" qual params (.expr body) scope cl dV doc pm cdv ct
abbrev objD (qual : Str) (params : Arguments) (body : Expr) (scope : Scope) (clos : List (Str × Addr)) (pm cv ctv dV doc : Value) : Obj := { cls := .type "function", data := .func (fnD qual params body scope clos pm cv ctv dV doc) }
/-- the value of a lambda's defaults -/
def dfV (L : LamSpec) (T : Addr) : Value := match L.df with
  | none => .none
  | some _ => .ref T
/-- the object at f is the lambda L -/
def LamO (f : Addr) (L : LamSpec) (cl : List (Str × Addr)) (c T : Addr) : HO := .ext fun h => ∃ (pm ctv doc : Value), h.get? f = some (objD L.q L.params L.body L.scope cl pm (.ref c) ctv (dfV L T) doc)
def LamS (H : Hp) (f : Addr) (L : LamSpec) (cl : List (Str × Addr)) : Prop := ∃ c T, H f = some (LamO f L cl c T) ∧ H c = some (LamX.CodeO c L.q) ∧ ∀ p, L.df = some p → H T = some (.tup [.int p.2])
theorem LamS.ext {H H' : Hp} {f : Addr} {L : LamSpec} {cl : List (Str × Addr)} (t : LamS H f L cl) (e : ∀ b o, H b = some o → (∀ vs, o ≠ .lst vs) → (∀ ps, o ≠ .tbl ps) → H' b = some o) : LamS H' f L cl := by
  obtain ⟨c, T, h1, h2, h3⟩ := t
  exact ⟨c, T, e _ _ h1 (fun vs z => by cases z) (fun vs z => by cases z), e _ _ h2 (fun vs z => by cases z) (fun vs z => by cases z), fun p hp => e _ _ (h3 p hp) (fun vs z => by cases z) (fun vs z => by cases z)⟩
theorem heap_dict (b : Addr) : ∃ h : Heap, h.DictRaw b #[] 0 := by
  refine ⟨⟨Array.replicate (b + 1) { cls := .type "dict", data := .dict #[] 0 }, {}⟩, { cls := .type "dict", data := .dict #[] 0 }, ?_, ⟨rfl, rfl, rfl⟩, rfl⟩
  unfold Heap.get?
  rw [show (Array.replicate (b + 1) ({ cls := .type "dict", data := .dict #[] 0 } : Obj))[b]? = some { cls := .type "dict", data := .dict #[] 0 } by simp]
theorem heap_dictE (b : Addr) (es : Array DictEntry) (ep : Nat) : ∃ h : Heap, h.DictRaw b es ep := by
  refine ⟨⟨Array.replicate (b + 1) { cls := .type "dict", data := .dict es ep }, {}⟩, { cls := .type "dict", data := .dict es ep }, ?_, ⟨rfl, rfl, rfl⟩, rfl⟩
  unfold Heap.get?
  rw [show (Array.replicate (b + 1) ({ cls := .type "dict", data := .dict es ep } : Obj))[b]? = some { cls := .type "dict", data := .dict es ep } by simp]
theorem dctO_neC {a c : Addr} {es : Array DictEntry} {ep : Nat} {q : Str} {H : Hp} (h1 : H a = some (DctO a es ep)) (h2 : H c = some (LamX.CodeO c q)) : a ≠ c := fun z => by
  subst z
  rw [h1] at h2
  have e : (fun h : Heap => h.DictRaw a es ep) = _ := HO.ext.inj (Option.some.inj h2)
  obtain ⟨h, hd⟩ := heap_dictE a es ep
  have hc := congrFun e h ▸ hd
  obtain ⟨o, e1, _, e2⟩ := hd
  obtain ⟨oc, vs, t, e3, e4, _⟩ := hc
  rw [e1] at e3
  cases e3
  rw [e2] at e4
  cases e4
theorem dctO_neL {a f c T : Addr} {es : Array DictEntry} {ep : Nat} {L : LamSpec} {cl : List (Str × Addr)} {H : Hp} (h1 : H a = some (DctO a es ep)) (h2 : H f = some (LamO f L cl c T)) : a ≠ f := fun z => by
  subst z
  rw [h1] at h2
  have e : (fun h : Heap => h.DictRaw a es ep) = _ := HO.ext.inj (Option.some.inj h2)
  obtain ⟨h, hd⟩ := heap_dictE a es ep
  have hc := congrFun e h ▸ hd
  obtain ⟨o, e1, _, e2⟩ := hd
  obtain ⟨pm, ctv, doc, e3⟩ := hc
  rw [e1] at e3
  cases e3
  cases e2
/-- such a dict as data -/
def isDn : PyData → Bool
  | .dict ((.none, .none) :: _) => true
  | _ => false
/-- a dict with entries that are data -/
structure DctR (K : PySem.W.Frag) (F H : Hp) (a : Addr) (kvs : List (PyData × PyData)) (es : Array DictEntry) (ep : Nat) (xs : List Ent) (vs : List V) : Prop where
  nm : (a == sysModules) = false
  at_ : H a = some (DctO a es ep)
  ent : es.toList = xs.map entN
  key : kvs.map (fun p => keyOf p.1) = xs.map (fun x => some x.1)
  deep : ∀ x ∈ xs, x.1.depth ≤ 8
  vals : Vals vs (xs.map fun x => x.2.2)
  nd : (xs.map (·.1)).Nodup
  kd : DqAll K F (xs.map fun x => .ref x.2.1) (kvs.map (·.1))
  vd : DqAll K F vs (kvs.map (·.2))
theorem DctR.ext {K : PySem.W.Frag} {F F' H H' : Hp} {a : Addr} {kvs : List (PyData × PyData)} {es : Array DictEntry} {ep : Nat} {xs : List Ent} {vs : List V} (h : DctR K F H a kvs es ep xs vs) (ff : Same F F') (e : H' a = H a) : DctR K F' H' a kvs es ep xs vs :=
  ⟨h.nm, e.trans h.at_, h.ent, h.key, h.deep, h.vals, h.nd, DqAll.mono ff _ _ h.kd, DqAll.mono ff _ _ h.vd⟩
theorem DctR.dq {K : PySem.W.Frag} {F H F' : Hp} {a : Addr} {kvs : List (PyData × PyData)} {es : Array DictEntry} {ep : Nat} {xs : List Ent} {vs : List V} (h : DctR K F H a kvs es ep xs vs) (ff : Same F F') (e : F' a = some (DctO a es ep)) : Dq K F' (.ref a) (.dict ((.none, .none) :: kvs)) :=
  .dn h.nm e h.ent h.key h.deep h.vals h.nd (DqAll.mono ff _ _ h.kd) (DqAll.mono ff _ _ h.vd)
/-- a dict of whole numbers as it is tracked -/
def dciO (kvs : List (Int × Int)) : HO := .dK (kvs.map fun p => (.inl p.1, .int p.2))
def GhR (K : PySem.W.Frag) (F H : Hp) (a : Addr) : Gt → Prop
  | .tab x => PySem.W.codeHdIn K (codeOf K x) a = true ∧ LamX.TabS H a (lamN x)
  | .lam _ L cells => LamS H a L (cloFrom cells L.scope.names [])
  | .dct kvs => ∃ es ep xs vs, DctR K F H a kvs es ep xs vs
  | .dci kvs => H a = some (dciO kvs)
theorem GhR.at_ {K : PySem.W.Frag} {F H : Hp} {a : Addr} {g : Gt} (h : GhR K F H a g) : ∃ o, H a = some o ∧ ∀ vs, o ≠ .lst vs := by
  cases g with
  | tab x =>
    obtain ⟨_, ps, h1, _⟩ := h
    exact ⟨_, h1, fun vs z => by cases z⟩
  | lam j L cl =>
    obtain ⟨c, T, h1, _⟩ := h
    exact ⟨_, h1, fun vs z => by cases z⟩
  | dct kvs =>
    obtain ⟨es, ep, xs, vs, h1⟩ := h
    exact ⟨_, h1.at_, fun vs z => by cases z⟩
  | dci kvs => exact ⟨_, h, fun vs z => by cases z⟩
theorem GhR.but {K : PySem.W.Frag} {F H H' : Hp} {a b : Addr} {g : Gt} {vs : List V} (h : GhR K F H a g) (hb : H b = some (.lst vs)) (e : ∀ c o, c ≠ b → H c = some o → H' c = some o) : GhR K F H' a g := by
  cases g with
  | tab x => exact ⟨h.1, tabS_but h.2 hb e⟩
  | lam j L cl => exact LamS.ext h fun c o hc n _ => e c o (fun z => by rw [z, hb] at hc; exact n _ (Option.some.inj hc).symm) hc
  | dct kvs =>
    obtain ⟨es, ep, xs, vs, h1⟩ := h
    exact ⟨es, ep, xs, vs, h1.ext (Same.refl _) ((e a _ (fun z => by have := h1.at_; rw [z, hb] at this; cases this) h1.at_).trans h1.at_.symm)⟩
  | dci kvs =>
    have h1 : H a = some (dciO kvs) := h
    exact e a _ (fun z => by rw [z, hb] at h1; cases h1) h1
theorem GhR.ext {K : PySem.W.Frag} {F F' H H' : Hp} {a : Addr} {g : Gt} (h : GhR K F H a g) (ff : Same F F') (e : ∀ c o, H c = some o → H' c = some o) : GhR K F' H' a g := by
  cases g with
  | tab x => exact ⟨h.1, h.2.ext e⟩
  | lam j L cl => exact LamS.ext h fun c o hc _ _ => e c o hc
  | dct kvs =>
    obtain ⟨es, ep, xs, vs, h1⟩ := h
    exact ⟨es, ep, xs, vs, h1.ext ff ((e _ _ h1.at_).trans h1.at_.symm)⟩
  | dci kvs => exact e _ _ h
/-- a dict at b changes, all else stays -/
theorem GhR.butD {K : PySem.W.Frag} {F H H' : Hp} {a b : Addr} {g : Gt} {es : Array DictEntry} {ep : Nat} (h : GhR K F H a g) (hab : a ≠ b) (hb : H b = some (DctO b es ep)) (e : ∀ c o, c ≠ b → H c = some o → H' c = some o) : GhR K F H' a g := by
  cases g with
  | tab x =>
    obtain ⟨h0, ps, h1, h2, h3⟩ := h
    refine ⟨h0, ps, e _ _ hab h1, h2, fun pos cv hc => ?_⟩
    obtain ⟨c, e1, e2⟩ := h3 pos cv hc
    exact ⟨c, e1, e _ _ (fun z => dctO_neC hb e2 z.symm) e2⟩
  | lam j L cl =>
    obtain ⟨c, T, h1, h2, h3⟩ := h
    refine ⟨c, T, e _ _ hab h1, e _ _ (fun z => dctO_neC hb h2 z.symm) h2, fun p hp => ?_⟩
    have h4 := h3 p hp
    exact e _ _ (fun z => by rw [z, hb] at h4; cases h4) h4
  | dct kvs =>
    obtain ⟨es, ep, xs, vs, h1⟩ := h
    exact ⟨es, ep, xs, vs, h1.ext (Same.refl _) ((e a _ hab h1.at_).trans h1.at_.symm)⟩
  | dci kvs => exact e _ _ hab h
/-- a dict of whole numbers at b changes, all else stays -/
theorem GhR.butI {K : PySem.W.Frag} {F H H' : Hp} {a b : Addr} {g : Gt} {kvs : List (Int × Int)} (h : GhR K F H a g) (hab : a ≠ b) (hb : H b = some (dciO kvs)) (e : ∀ c o, c ≠ b → H c = some o → H' c = some o) : GhR K F H' a g := by
  cases g with
  | tab x =>
    obtain ⟨h0, ps, h1, h2, h3⟩ := h
    refine ⟨h0, ps, e _ _ hab h1, h2, fun pos cv hc => ?_⟩
    obtain ⟨c, e1, e2⟩ := h3 pos cv hc
    exact ⟨c, e1, e _ _ (fun z => by rw [z, hb] at e2; cases e2) e2⟩
  | lam j L cl =>
    obtain ⟨c, T, h1, h2, h3⟩ := h
    refine ⟨c, T, e _ _ hab h1, e _ _ (fun z => by rw [z, hb] at h2; cases h2) h2, fun p hp => ?_⟩
    have h4 := h3 p hp
    exact e _ _ (fun z => by rw [z, hb] at h4; cases h4) h4
  | dct kvs =>
    obtain ⟨es, ep, xs, vs, h1⟩ := h
    exact ⟨es, ep, xs, vs, h1.ext (Same.refl _) ((e a _ hab h1.at_).trans h1.at_.symm)⟩
  | dci kvs => exact e _ _ hab h
section
variable (K : PySem.W.Frag) (ι : Nat → Addr) (F H : Hp)
def RV (n : Nat) (v : V) : Val → Prop
  | .d x => Dq K F v x
  | .loc k => k < n ∧ v = .ref (ι k)
inductive RVs (n : Nat) : List V → List Val → Prop
  | nil : RVs n [] []
  | cons {v : V} {x : Val} {vs : List V} {xs : List Val} : RV K ι F n v x → RVs n vs xs → RVs n (v :: vs) (x :: xs)
def ObR (n : Nat) (a : Addr) : Ob → Prop
  | .lst xs => F a = none ∧ ∃ vs, H a = some (.lst vs) ∧ RVs K ι F n vs xs
  | .frz ds => ∃ vs, F a = some (.lst vs) ∧ DqAll K F vs ds
  | .gh g => F a = none ∧ GhR K F H a g
structure Rel (S : Sto) : Prop where
  sub : Same F H
  inj : ∀ i j, i < S.length → j < S.length → ι i = ι j → i = j
  obj : ∀ (k : Nat) (o : Ob), S[k]? = some o → ObR K ι F H S.length (ι k) o
def SlR (n : Nat) (σ : L2.St) (sl : Sl) : Prop := ∀ (i : Nat) (x : Val), sl[i]? = some (some x) → ∃ v, σ[i]? = some (some v) ∧ RV K ι F n v x
/-- an operand as data, now -/
def RD (v : V) (x : PyData) : Prop := Dq K F v x ∨ (∃ a vs ds, v = .ref a ∧ x = .list ds ∧ H a = some (.lst vs) ∧ DqAll K F vs ds) ∨ ∃ a kvs, v = .ref a ∧ x = .dict ((.none, .none) :: kvs) ∧ ∃ es ep xs vs, DctR K F H a kvs es ep xs vs
end
/-- from a state to a later one -/
structure Stp (ι : Nat → Addr) (F H : Hp) (n : Nat) (ι' : Nat → Addr) (F' H' : Hp) (n' : Nat) : Prop where
  le : n ≤ n'
  ag : ∀ k, k < n → ι' k = ι k
  ff : Same F F'
  out : ∀ a o, H a = some o → (∀ k, k < n → ι k ≠ a) → H' a = some o
  dom : ∀ a o, H a = some o → ∃ o', H' a = some o'
  new : ∀ k, n ≤ k → k < n' → H (ι' k) = none
  fnew : ∀ a o, F' a = some o → F a = some o ∨ H a = none ∨ ∃ k, k < n ∧ ι k = a
/-- growth alone -/
structure Grow (F H F' H' : Hp) : Prop where
  ff : Same F F'
  hh : Same H H'
  sub : Same F' H'
  fnew : ∀ a o, F' a = some o → F a = some o ∨ H a = none
section
variable {K : PySem.W.Frag} {ι ι1 ι2 : Nat → Addr} {F F1 F2 H H1 H2 : Hp} {n n1 n2 : Nat} {S S1 S2 : Sto}
theorem Stp.refl : Stp ι F H n ι F H n :=
  ⟨Nat.le_refl _, fun _ _ => rfl, Same.refl _, fun _ _ h _ => h, fun _ o h => ⟨o, h⟩, fun _ h1 h2 => absurd (Nat.lt_of_le_of_lt h1 h2) (Nat.lt_irrefl _), fun _ _ h => .inl h⟩
theorem none_back {H H1 : Hp} (dom : ∀ a o, H a = some o → ∃ o', H1 a = some o') {a : Addr} (h : H1 a = none) : H a = none := by
  cases q : H a with
  | none => rfl
  | some o =>
    obtain ⟨o', e⟩ := dom a o q
    rw [h] at e
    cases e
theorem Stp.trans (a : Stp ι F H n ι1 F1 H1 n1) (b : Stp ι1 F1 H1 n1 ι2 F2 H2 n2) : Stp ι F H n ι2 F2 H2 n2 where
  le := Nat.le_trans a.le b.le
  ag := fun k hk => (b.ag k (Nat.lt_of_lt_of_le hk a.le)).trans (a.ag k hk)
  ff := a.ff.trans b.ff
  out := fun x o h hn => b.out x o (a.out x o h hn) fun k hk e => by
    by_cases q : k < n
    · exact hn k q ((a.ag k q).symm.trans e)
    · have := a.new k (Nat.le_of_not_lt q) hk
      rw [e, h] at this
      cases this
  dom := fun x o h => let ⟨o1, h1⟩ := a.dom x o h; b.dom x o1 h1
  new := fun k h1 h2 => by
    by_cases q : k < n1
    · rw [b.ag k q]
      exact a.new k h1 q
    · exact none_back a.dom (b.new k (Nat.le_of_not_lt q) h2)
  fnew := fun x o h => by
    rcases b.fnew x o h with h | h | ⟨k, hk, e⟩
    · exact a.fnew x o h
    · exact .inr (.inl (none_back a.dom h))
    · by_cases q : k < n
      · exact .inr (.inr ⟨k, q, (a.ag k q).symm.trans e⟩)
      · exact .inr (.inl (e ▸ a.new k (Nat.le_of_not_lt q) hk))
theorem Grow.refl (h : Same F H) : Grow F H F H := ⟨Same.refl _, Same.refl _, h, fun _ _ h => .inl h⟩
theorem Grow.dom (g : Grow F H F1 H1) : ∀ a o, H a = some o → ∃ o', H1 a = some o' := fun a o h => ⟨o, g.hh a o h⟩
theorem Grow.trans (a : Grow F H F1 H1) (b : Grow F1 H1 F2 H2) : Grow F H F2 H2 :=
  ⟨a.ff.trans b.ff, a.hh.trans b.hh, b.sub, fun x o h => (b.fnew x o h).elim (a.fnew x o) fun q => .inr (none_back a.dom q)⟩
theorem Grow.stp (g : Grow F H F1 H1) : Stp ι F H n ι F1 H1 n :=
  ⟨Nat.le_refl _, fun _ _ => rfl, g.ff, fun a o h _ => g.hh a o h, g.dom, fun _ h1 h2 => absurd (Nat.lt_of_le_of_lt h1 h2) (Nat.lt_irrefl _), fun a o h => (g.fnew a o h).elim .inl fun q => .inr (.inl q)⟩
/-- a new frozen object -/
theorem Grow.new {p : Addr} {o : HO} (s : Same F H) (hp : H p = none) : Grow F H (upd F p o) (upd H p o) := by
  have fp : F p = none := s.free hp
  refine ⟨fun a u h => ?_, fun a u h => ?_, fun a u h => ?_, fun a u h => ?_⟩
  · rw [upd_ne (ne_of_none h fp)]; exact h
  · rw [upd_ne (ne_of_none h hp)]; exact h
  · by_cases e : a = p
    · subst e; rw [upd_same] at h ⊢; exact h
    · rw [upd_ne e] at h ⊢; exact s _ _ h
  · by_cases e : a = p
    · subst e; exact .inr hp
    · rw [upd_ne e] at h; exact .inl h
theorem RV.mono {v : V} {x : Val} (h : RV K ι F n v x) (le : n ≤ n1) (ag : ∀ k, k < n → ι1 k = ι k) (ff : Same F F1) : RV K ι1 F1 n1 v x := by
  cases x with
  | d x => exact Dq.mono ff _ _ h
  | loc k => exact ⟨Nat.lt_of_lt_of_le h.1 le, by rw [ag k h.1]; exact h.2⟩
theorem RVs.mono {vs : List V} {xs : List Val} (h : RVs K ι F n vs xs) (le : n ≤ n1) (ag : ∀ k, k < n → ι1 k = ι k) (ff : Same F F1) : RVs K ι1 F1 n1 vs xs := by
  induction h with
  | nil => exact .nil
  | cons a _ ih => exact .cons (a.mono le ag ff) ih
theorem RV.stp {v : V} {x : Val} (h : RV K ι F n v x) (s : Stp ι F H n ι1 F1 H1 n1) : RV K ι1 F1 n1 v x := h.mono s.le s.ag s.ff
theorem RVs.stp {vs : List V} {xs : List Val} (h : RVs K ι F n vs xs) (s : Stp ι F H n ι1 F1 H1 n1) : RVs K ι1 F1 n1 vs xs := h.mono s.le s.ag s.ff
theorem SlR.stp {σ : L2.St} {sl : Sl} (h : SlR K ι F n σ sl) (s : Stp ι F H n ι1 F1 H1 n1) : SlR K ι1 F1 n1 σ sl := fun i x e =>
  let ⟨v, e1, r⟩ := h i x e; ⟨v, e1, r.stp s⟩
theorem RVs.length {vs : List V} {xs : List Val} (h : RVs K ι F n vs xs) : vs.length = xs.length := by
  induction h with
  | nil => rfl
  | cons _ _ ih => simp [ih]
theorem RVs.append {vs us : List V} {xs ys : List Val} (h : RVs K ι F n vs xs) (h' : RVs K ι F n us ys) : RVs K ι F n (vs ++ us) (xs ++ ys) := by
  induction h with
  | nil => exact h'
  | cons a _ ih => exact .cons a ih
theorem RVs.get {vs : List V} {xs : List Val} (h : RVs K ι F n vs xs) : ∀ {i : Nat} {x : Val}, xs[i]? = some x → ∃ v, vs[i]? = some v ∧ RV K ι F n v x := by
  induction h with
  | nil => intro i x e; simp at e
  | cons a _ ih =>
    intro i x e
    cases i with
    | zero => simp at e; subst e; exact ⟨_, rfl, a⟩
    | succ i =>
      obtain ⟨v, e1, r⟩ := ih (i := i) (by simpa using e)
      exact ⟨v, by simpa using e1, r⟩
theorem RVs.set {vs : List V} {xs : List Val} (h : RVs K ι F n vs xs) {v : V} {x : Val} (r : RV K ι F n v x) : ∀ i : Nat, RVs K ι F n (vs.set i v) (xs.set i x) := by
  induction h with
  | nil => intro i; simp; exact .nil
  | cons a t ih =>
    intro i
    cases i with
    | zero => simpa using RVs.cons r t
    | succ i => simpa using RVs.cons a (ih i)
theorem RVs.of_all {vs : List V} {ds : List PyData} (h : DqAll K F vs ds) : RVs K ι F n vs (ds.map .d) := by
  induction ds generalizing vs with
  | nil => cases h; exact .nil
  | cons d ds ih =>
    cases h with
    | cons a b => exact .cons a (ih b)
/-- the items, all of them data -/
def allD : List Val → Option (List PyData)
  | [] => some []
  | .d x :: r => (allD r).map (x :: ·)
  | .loc _ :: _ => none
theorem RVs.all {vs : List V} {xs : List Val} (h : RVs K ι F n vs xs) : ∀ {ds : List PyData}, allD xs = some ds → DqAll K F vs ds := by
  induction h with
  | nil => intro ds e; simp [allD] at e; subst e; exact .nil
  | @cons v x vs xs a t ih =>
    intro ds e
    cases x with
    | loc k => simp [allD] at e
    | d x =>
      simp only [allD, Option.map_eq_some_iff] at e
      obtain ⟨es, e1, rfl⟩ := e
      exact .cons a (ih e1)
theorem allD_map (ds : List PyData) : allD (ds.map .d) = some ds := by
  induction ds with
  | nil => rfl
  | cons d ds ih => simp [allD, ih]
theorem allD_eq : ∀ {xs : List Val} {ds : List PyData}, allD xs = some ds → xs = ds.map .d
  | [], ds, e => by simp [allD] at e; subst e; rfl
  | .d x :: r, ds, e => by
    simp only [allD, Option.map_eq_some_iff] at e
    obtain ⟨es, e1, rfl⟩ := e
    rw [allD_eq e1]
    rfl
  | .loc _ :: _, _, e => by simp [allD] at e
/-- an operand's data, now -/
def dat (S : Sto) : Val → Option PyData
  | .d x => some x
  | .loc k => match S[k]? with
    | some (.lst xs) => (allD xs).map .list
    | some (.frz ds) => some (.list ds)
    | some (.gh (.dct kvs)) => some (.dict ((.none, .none) :: kvs))
    | some (.gh _) => none
    | none => none
theorem RV.dat {v : V} {x : Val} {y : PyData} (r : RV K ι F S.length v x) (rel : Rel K ι F H S) (e : dat S x = some y) : RD K F H v y := by
  cases x with
  | d x => simp [DV.dat] at e; subst e; exact .inl r
  | loc k =>
    obtain ⟨hk, rfl⟩ := r
    unfold DV.dat at e
    dsimp only at e
    split at e
    · rename_i xs q
      simp only [Option.map_eq_some_iff] at e
      obtain ⟨ds, e1, rfl⟩ := e
      obtain ⟨_, vs, h1, h2⟩ := rel.obj k _ q
      exact .inr (.inl ⟨_, vs, ds, rfl, rfl, h1, h2.all e1⟩)
    · rename_i x q
      cases e
      obtain ⟨vs, h1, h2⟩ := rel.obj k _ q
      exact .inl (.lst h1 h2)
    · rename_i kvs q
      cases e
      obtain ⟨_, h⟩ := rel.obj k _ q
      exact .inr (.inr ⟨_, kvs, rfl, rfl, h⟩)
    · cases e
    · cases e
theorem RD.dp {v : V} {x : PyData} (s : Same F H) (h : RD K F H v x) : Dq K H v x := by
  rcases h with h | ⟨a, vs, ds, rfl, rfl, h1, h2⟩ | ⟨a, kvs, rfl, rfl, es, ep, xs, vs, h1⟩
  · exact Dq.mono s _ _ h
  · exact .lst h1 (DqAll.mono s _ _ h2)
  · exact h1.dq s h1.at_
theorem RD.int {v : V} {i : Int} (h : RD K F H v (.int i)) : v = .int i := by
  rcases h with h | ⟨a, vs, ds, rfl, e, h1, h2⟩ | ⟨a, kvs, rfl, e, h1⟩
  · cases h; rfl
  · cases e
  · cases e
theorem RD.bl {v : V} {i : Bool} (h : RD K F H v (.bool i)) : v = .bl i := by
  rcases h with h | ⟨a, vs, ds, rfl, e, h1, h2⟩ | ⟨a, kvs, rfl, e, h1⟩
  · cases h; rfl
  · cases e
  · cases e
theorem RD.str {v : V} {i : Str} (h : RD K F H v (.str i)) : v = .str i := by
  rcases h with h | ⟨a, vs, ds, rfl, e, h1, h2⟩ | ⟨a, kvs, rfl, e, h1⟩
  · cases h; rfl
  · cases e
  · cases e
theorem RD.non {v : V} (h : RD K F H v .none) : v = .non := by
  rcases h with h | ⟨a, vs, ds, rfl, e, h1, h2⟩ | ⟨a, kvs, rfl, e, h1⟩
  · cases h; rfl
  · cases e
  · cases e
theorem RD.list {v : V} {ds : List PyData} (s : Same F H) (h : RD K F H v (.list ds)) : ∃ a vs, v = .ref a ∧ H a = some (.lst vs) ∧ DqAll K F vs ds := by
  rcases h with h | ⟨a, vs, ds, rfl, e, h1, h2⟩ | ⟨a, kvs, rfl, e, h1⟩
  · cases h with
    | lst q r => exact ⟨_, _, rfl, s _ _ q, r⟩
  · cases e; exact ⟨_, _, rfl, h1, h2⟩
  · cases e
theorem RD.tuple {v : V} {ds : List PyData} (s : Same F H) (h : RD K F H v (.tuple ds)) : ∃ a vs, v = .ref a ∧ SqT K H a vs ∧ DqAll K F vs ds := by
  rcases h with h | ⟨a, vs, ds, rfl, e, h1, h2⟩ | ⟨a, kvs, rfl, e, h1⟩
  · cases h with
    | tup q r p => exact ⟨_, _, rfl, SqT.mono s q, r⟩
  · cases e
  · cases e
/-- growth keeps the store -/
theorem Rel.grow (r : Rel K ι F H S) (g : Grow F H F1 H1) : Rel K ι F1 H1 S where
  sub := g.sub
  inj := r.inj
  obj := fun k o e => by
    have h := r.obj k o e
    cases o with
    | frz x =>
      obtain ⟨vs, h1, h2⟩ := h
      exact ⟨vs, g.ff _ _ h1, DqAll.mono g.ff _ _ h2⟩
    | lst xs =>
      obtain ⟨h0, vs, h1, h2⟩ := h
      refine ⟨?_, vs, g.hh _ _ h1, h2.mono (Nat.le_refl _) (fun _ _ => rfl) g.ff⟩
      cases q : F1 (ι k) with
      | none => rfl
      | some u =>
        rcases g.fnew _ _ q with z | z
        · rw [h0] at z; cases z
        · rw [h1] at z; cases z
    | gh x =>
      obtain ⟨h0, h1⟩ := h
      refine ⟨?_, h1.ext g.ff g.hh⟩
      obtain ⟨ps, h3, _⟩ := h1.at_
      cases q : F1 (ι k) with
      | none => rfl
      | some u =>
        rcases g.fnew _ _ q with z | z
        · rw [h0] at z; cases z
        · rw [h3] at z; cases z
end
section
variable {K : PySem.W.Frag} {F H : Hp}
theorem RD.scr {v : V} {ds : List PyData} (s : Same F H) (h : RD K F H v (.dict [(.none, .list ds)])) : ∃ a vs, v = .ref a ∧ SqL K H a vs ∧ DqAll K F vs ds := by
  rcases h with h | ⟨a, vs, ds, rfl, e, h1, h2⟩ | ⟨a, kvs, rfl, e, h1⟩
  · cases h with
    | scr q r => exact ⟨_, _, rfl, s.seq q, r⟩
    | dk _ _ e _ =>
      rename_i ks _ _ _ _
      cases ks with
      | nil => simp at e
      | cons k ks => cases k <;> simp [keyD] at e
    | dt _ _ e _ =>
      rename_i ks _ _ _ _
      cases ks with
      | nil => simp at e
      | cons k ks => simp at e
  · cases e
  · cases e
end
end DV
set_option Elab.async false
set_option linter.all false
set_option maxRecDepth 100000
namespace DV
open PySem PySem.Spec PyProof.Rows L2

abbrev CxSt := L2.St
/-- an exception as data -/
def ErrR (K : PySem.W.Frag) (mg : Str → Option Value) (F : Hp) (e : Exn) (cls : Value) (d : Option Addr) (H : Hp) : Prop :=
  (∃ C, cls = .ref C ∧ mg e.cls = some (.ref C)) ∧ match e.fs with
    | [] => True
    | fs => ∃ dx vs, d = some dx ∧ H dx = some (.xd vs) ∧ vs.map (·.1) = fs.map (·.1) ∧ DqAll K F (vs.map (·.2)) (fs.map (·.2))
section
variable (K : PySem.W.Frag) (mg : Str → Option Value) (W : WX) (σ : CxSt)
/-- behind a reckoning -/
def Aft {α : Type} (ι : Nat → Addr) (F H : Hp) (n : Nat) (r : R α) (P : α → Sto → (Nat → Addr) → Hp → Hp → Prop) : Prop := match r with
  | .ok a S' => ∀ ι' F' H', Stp ι F H n ι' F' H' S'.length → Rel K ι' F' H' S' → P a S' ι' F' H'
  | .er e S' => ∀ ι' F' H' cls d, Stp ι F H n ι' F' H' S'.length → Rel K ι' F' H' S' → ErrR K mg F' e cls d H' → W cls d σ H'
  | .bad => False
end
section
variable {K : PySem.W.Frag} {mg : Str → Option Value} {W : WX} {σ : CxSt} {ι ι1 : Nat → Addr} {F F1 H H1 : Hp} {n n1 : Nat} {α β : Type}
theorem Aft.stp {r : R α} {P : α → Sto → (Nat → Addr) → Hp → Hp → Prop} (h : Aft K mg W σ ι F H n r P) (s : Stp ι F H n ι1 F1 H1 n1) : Aft K mg W σ ι1 F1 H1 n1 r P := by
  cases r with
  | ok a S' => exact fun ι' F' H' s' rel => h ι' F' H' (s.trans s') rel
  | er e S' => exact fun ι' F' H' cls d s' rel er => h ι' F' H' cls d (s.trans s') rel er
  | bad => exact h
theorem Aft.bind {r : R α} {k : α → Sto → R β} {P : β → Sto → (Nat → Addr) → Hp → Hp → Prop} (h : Aft K mg W σ ι F H n (r.bind k) P) :
    Aft K mg W σ ι F H n r fun a S1 ι1 F1 H1 => Stp ι F H n ι1 F1 H1 S1.length ∧ Rel K ι1 F1 H1 S1 ∧ Aft K mg W σ ι1 F1 H1 S1.length (k a S1) P := by
  cases r with
  | ok a S1 => exact fun ι1 F1 H1 s rel => ⟨s, rel, Aft.stp (r := k a S1) h s⟩
  | er e S' => exact h
  | bad => exact h
theorem Aft.imp {r : R α} {P P' : α → Sto → (Nat → Addr) → Hp → Hp → Prop} (h : Aft K mg W σ ι F H n r P) (k : ∀ a S' ι' F' H', P a S' ι' F' H' → P' a S' ι' F' H') : Aft K mg W σ ι F H n r P' := by
  cases r with
  | ok a S' => exact fun ι' F' H' s' rel => k _ _ _ _ _ (h ι' F' H' s' rel)
  | er e S' => exact h
  | bad => exact h
end
/-- readings: an expression, a test, an argument list -/
def tE (K : PySem.W.Frag) (mg : Str → Option Value) (W : WX) (f : DE) : TE := fun σ H Q => ∃ ι F S sl, sl.length ≤ σ.length ∧ SlR K ι F S.length σ sl ∧ Rel K ι F H S ∧
  Aft K mg W σ ι F H S.length (f sl S) fun x S' ι' F' H' => ∀ u, RV K ι' F' S'.length u x → Q u H'
abbrev DB := Sl → Sto → R Bool
def tB (K : PySem.W.Frag) (mg : Str → Option Value) (W : WX) (f : DB) : TT := fun σ H Q => ∃ ι F S sl, sl.length ≤ σ.length ∧ SlR K ι F S.length σ sl ∧ Rel K ι F H S ∧
  Aft K mg W σ ι F H S.length (f sl S) fun b S' ι' F' H' => Q b H'
abbrev DL := Sl → Sto → R (List Val)
def tL (K : PySem.W.Frag) (mg : Str → Option Value) (W : WX) (f : DL) : TA := fun σ H Q => ∃ ι F S sl, sl.length ≤ σ.length ∧ SlR K ι F S.length σ sl ∧ Rel K ι F H S ∧
  Aft K mg W σ ι F H S.length (f sl S) fun xs S' ι' F' H' => ∀ us, RVs K ι' F' S'.length us xs → Q us H'
theorem PE.imp {X : Cx} {e : Expr} {t t' : TE} (h : PE X e t) (k : ∀ σ H Q, t' σ H Q → t σ H Q) : PE X e t' := ⟨fun pins s σ H Q I q => h.run pins s σ H Q I (k _ _ _ q)⟩
theorem PT.imp {X : Cx} {e : Expr} {t t' : TT} (h : PT X e t) (k : ∀ σ H Q, t' σ H Q → t σ H Q) : PT X e t' := ⟨fun pins s σ H Q I q => h.run pins s σ H Q I (k _ _ _ q)⟩
theorem PA.imp {X : Cx} {e : List Expr} {t t' : TA} (h : PA X e t) (k : ∀ σ H Q, t' σ H Q → t σ H Q) : PA X e t' := ⟨fun pos pins s σ H Q I q => h.run pos pins s σ H Q I (k _ _ _ q)⟩
theorem PW.imp {X : Cx} {e : Expr} {t t' : TT} (h : PW X e t) (k : ∀ σ H Q, t' σ H Q → t σ H Q) : PW X e t' := ⟨fun wh pins s σ H Q I q => h.run wh pins s σ H Q I (k _ _ _ q)⟩
/-- THE JUDGEMENTS -/
def QE (X : Cx) (W : WX) (e : Expr) (f : DE) : Prop := PE X e (tE X.K X.mg W f)
def QT (X : Cx) (W : WX) (e : Expr) (f : DB) : Prop := PT X e (tB X.K X.mg W f)
def QW (X : Cx) (W : WX) (e : Expr) (f : DB) : Prop := PW X e (tB X.K X.mg W f)
def QA (X : Cx) (W : WX) (es : List Expr) (f : DL) : Prop := PA X es (tL X.K X.mg W f)
section
variable {X : Cx} {W : WX} {a b c e : Expr} {es : List Expr} {fa fb fc f : DE} {pos p p2 : Pos}

/-- enter a reading: the state as it is; close one: what was reached -/
theorem tE.of {K : PySem.W.Frag} {mg : Str → Option Value} {σ : CxSt} {H : Hp} {Q : VK} {ι : Nat → Addr} {F : Hp} {S : Sto} {sl : Sl} (hz : sl.length ≤ σ.length) (hs : SlR K ι F S.length σ sl) (r : Rel K ι F H S)
    (h : Aft K mg W σ ι F H S.length (f sl S) fun x S' ι' F' H' => ∀ u, RV K ι' F' S'.length u x → Q u H') : tE K mg W f σ H Q := ⟨ι, F, S, sl, hz, hs, r, h⟩
/-- two expressions in a row -/
theorem tE.two {K : PySem.W.Frag} {mg : Str → Option Value} {σ : CxSt} {H : Hp} {ι : Nat → Addr} {F : Hp} {S : Sto} {sl : Sl} {k : Val → Val → Sto → R Val} {P : Val → Sto → (Nat → Addr) → Hp → Hp → Prop} {Q : V → V → Hp → Prop}
    (hz : sl.length ≤ σ.length) (hs : SlR K ι F S.length σ sl) (r : Rel K ι F H S)
    (h : Aft K mg W σ ι F H S.length ((fa sl S).bind fun x S1 => (fb sl S1).bind fun y S2 => k x y S2) P)
    (hQ : ∀ x y S2 ι2 F2 H2 u v, Stp ι F H S.length ι2 F2 H2 S2.length → Rel K ι2 F2 H2 S2 → RV K ι2 F2 S2.length u x → RV K ι2 F2 S2.length v y → Aft K mg W σ ι2 F2 H2 S2.length (k x y S2) P → Q u v H2) :
    tE K mg W fa σ H fun u H1 => tE K mg W fb σ H1 fun v H2 => Q u v H2 := by
  refine ⟨ι, F, S, sl, hz, hs, r, Aft.imp h.bind fun x S1 ι1 F1 H1 ⟨s1, r1, h1⟩ u ru => ?_⟩
  refine ⟨ι1, F1, S1, sl, hz, hs.stp s1, r1, Aft.imp h1.bind fun y S2 ι2 F2 H2 ⟨s2, r2, h2⟩ v rv => ?_⟩
  exact hQ x y S2 ι2 F2 H2 u v (s1.trans s2) r2 (ru.stp s2) rv h2

/-! ### names and constants -/
def var (i : Nat) : DE := fun sl S => match sl[i]? with
  | some (some x) => .ok x S
  | _ => .bad
def cst (x : PyData) : DE := fun _ S => .ok (.d x) S
theorem q_var {i : Nat} (h : PE X e (tVar i)) : QE X W e (var i) := by
  refine PE.imp h fun σ H Q ⟨ι, F, S, sl, hz, hs, r, q⟩ => ?_
  unfold var at q
  split at q
  · rename_i x ex
    obtain ⟨v, e1, rv⟩ := hs i x ex
    exact ⟨v, e1, q ι F H .refl r v rv⟩
  · exact q.elim
theorem q_cst {v : V} {x : PyData} (h : PE X e (tC v)) (d : ∀ F, Dq X.K F v x) : QE X W e (cst x) :=
  PE.imp h fun σ H Q ⟨ι, F, S, sl, hz, hs, r, q⟩ => q ι F H .refl r v (d F)
theorem q_int {i j} : QE X W (.Constant (.int i) j pos) (cst (.int i)) := q_cst pe_int fun _ => .int _
theorem q_bl {i j} : QE X W (.Constant (.bool i) j pos) (cst (.bool i)) := q_cst pe_bl fun _ => .bl _
theorem q_non {j} : QE X W (.Constant .none j pos) (cst .none) := q_cst pe_non fun _ => .non
theorem q_str {i j} : QE X W (.Constant (.str i) j pos) (cst (.str i)) := q_cst pe_str fun _ => .str _

/-! ### operators on data -/
/-- a rule that serves a function of two operands -/
def OpD (K : PySem.W.Frag) (r : R2) (g : PyData → PyData → Option PyData) : Prop :=
  ∀ (F H : Hp) (u v : V) (x y z : PyData) (Q : VK), Same F H → RD K F H u x → RD K F H v y → g x y = some z → (∀ t F' H', Grow F H F' H' → Dq K F' t z → Q t H') → r u v H Q
def okD (o : Option PyData) (S : Sto) : R Val := match o with
  | some z => .ok (.d z) S
  | none => .bad
def two (g : PyData → PyData → Option PyData) (S : Sto) (x y : Val) : R Val := match dat S x, dat S y with
  | some x, some y => okD (g x y) S
  | _, _ => .bad
def bin (g : PyData → PyData → Option PyData) (fa fb : DE) : DE := fun sl S => (fa sl S).bind fun x S1 => (fb sl S1).bind fun y S2 => two g S2 x y
theorem two_ok {K : PySem.W.Frag} {mg : Str → Option Value} {σ : CxSt} {r : R2} {g : PyData → PyData → Option PyData} (hr : OpD K r g) {ι : Nat → Addr} {F H : Hp} {S : Sto} {x y : Val} {u v : V} {Q : VK} (rel : Rel K ι F H S)
    (ru : RV K ι F S.length u x) (rv : RV K ι F S.length v y) (h : Aft K mg W σ ι F H S.length (two g S x y) fun x S' ι' F' H' => ∀ u, RV K ι' F' S'.length u x → Q u H') : r u v H Q := by
  unfold two at h
  split at h
  · rename_i x' y' e1 e2
    unfold okD at h
    split at h
    · rename_i z ez
      exact hr F H u v x' y' z Q rel.sub (ru.dat rel e1) (rv.dat rel e2) ez fun t F' H' g d => h ι F' H' g.stp (rel.grow g) t d
    · exact h.elim
  · exact h.elim
theorem q_two {r : R2} {g : PyData → PyData → Option PyData} (hr : OpD X.K r g) (h : PE X e (tOp r (tE X.K X.mg W fa) (tE X.K X.mg W fb))) : QE X W e (bin g fa fb) := by
  refine PE.imp h fun σ H Q ⟨ι, F, S, sl, hz, hs, rel, q⟩ => ?_
  exact tE.two hz hs rel q fun x y S2 ι2 F2 H2 u v s2 r2 ru rv h2 => two_ok hr r2 ru rv h2
theorem q_bin {op : Operator} {r : R2} {g : PyData → PyData → Option PyData} (ho : OpR X (binaryOp op) r) (hr : OpD X.K r g) (ha : QE X W a fa) (hb : QE X W b fb) : QE X W (.BinOp a op b pos) (bin g fa fb) :=
  q_two hr (pe_op ho ha hb)
theorem q_cmp {op : CmpOp} {r : R2} {g : PyData → PyData → Option PyData} (ho : OpR X (compareOp op) r) (hr : OpD X.K r g) (ha : QE X W a fa) (hb : QE X W b fb) (hm : behindInMarks op b = false) : QE X W (.Compare a [op] [b] pos) (bin g fa fb) :=
  q_two hr (pe_cmpR ho ha hb hm)
/-- a test of a truth value -/
def asB (f : DE) : DB := fun sl S => (f sl S).bind fun x S1 => match x with
  | .d (.bool b) => .ok b S1
  | _ => .bad
theorem asB_ok {K : PySem.W.Frag} {mg : Str → Option Value} {σ : CxSt} {H : Hp} {Q : Bool → Hp → Prop} (h : tB K mg W (asB f) σ H Q) : tE K mg W f σ H fun v H' => ∃ k, v = .bl k ∧ Q k H' := by
  obtain ⟨ι, F, S, sl, hz, hs, rel, q⟩ := h
  refine ⟨ι, F, S, sl, hz, hs, rel, Aft.imp (Aft.bind q) fun x S1 ι1 F1 H1 ⟨s1, r1, h1⟩ u ru => ?_⟩
  split at h1
  · cases ru
    exact ⟨_, rfl, h1 ι1 F1 H1 .refl r1⟩
  · exact h1.elim
theorem t_val (h : QE X W e f) (he : ∀ whole, isTrue e X.env whole = (do let v ← whole; standAt e.pos; holding [v] (truthy v)) := by intro _; rfl) : QT X W e (asB f) :=
  PT.imp (pt_val h he) fun σ H Q q => asB_ok q
theorem t_cmp {op : CmpOp} {r : R2} {g : PyData → PyData → Option PyData} (ho : OpR X (compareOp op) r) (hr : OpD X.K r g) (ha : QE X W a fa) (hb : QE X W b fb) (hm : behindInMarks op b = false) : QT X W (.Compare a [op] [b] pos) (asB (bin g fa fb)) := by
  refine PT.imp (pt_cmpR ho ha hb hm) fun σ H Q q => ?_
  obtain ⟨ι, F, S, sl, hz, hs, rel, q⟩ := asB_ok q
  exact tE.two hz hs rel q fun x y S2 ι2 F2 H2 u v s2 r2 ru rv h2 => two_ok hr r2 ru rv h2
def un (g : PyData → Option PyData) (fa : DE) : DE := fun sl S => (fa sl S).bind fun x S1 => match dat S1 x with
  | some x => okD (g x) S1
  | none => .bad
def UnD (K : PySem.W.Frag) (r : V → Hp → VK → Prop) (g : PyData → Option PyData) : Prop :=
  ∀ (F H : Hp) (u : V) (x z : PyData) (Q : VK), Same F H → RD K F H u x → g x = some z → (∀ t F' H', Grow F H F' H' → Dq K F' t z → Q t H') → r u H Q
theorem un_ok {K : PySem.W.Frag} {mg : Str → Option Value} {σ : CxSt} {r : V → Hp → VK → Prop} {g : PyData → Option PyData} (hr : UnD K r g) {H : Hp} {Q : VK} (h : tE K mg W (un g fa) σ H Q) : tE K mg W fa σ H fun u H1 => r u H1 Q := by
  obtain ⟨ι, F, S, sl, hz, hs, rel, q⟩ := h
  refine ⟨ι, F, S, sl, hz, hs, rel, Aft.imp (Aft.bind q) fun x S1 ι1 F1 H1 ⟨s1, r1, h1⟩ u ru => ?_⟩
  split at h1
  · rename_i x' e1
    unfold okD at h1
    split at h1
    · rename_i z ez
      exact hr F1 H1 u x' z Q r1.sub (ru.dat r1 e1) ez fun t F' H' g d => h1 ι1 F' H' g.stp (r1.grow g) t d
    · exact h1.elim
  · exact h1.elim
theorem q_un {op : UnaryOp} {r : V → Hp → VK → Prop} {g : PyData → Option PyData} (ho : UnR X (unaryOp op) r) (hr : UnD X.K r g) (ha : QE X W a fa) : QE X W (.UnaryOp op a pos) (un g fa) :=
  PE.imp (pe_un ho ha) fun σ H Q q => un_ok hr q

/-! ### and, or, not, if -/
def andB (f g : DB) : DB := fun sl S => (f sl S).bind fun b S1 => if b = true then g sl S1 else .ok false S1
def orB (f g : DB) : DB := fun sl S => (f sl S).bind fun b S1 => if b = true then .ok true S1 else g sl S1
def notB (f : DB) : DB := fun sl S => (f sl S).bind fun b S1 => .ok (!b) S1
variable {ba bb bc : DB} {rest : List Expr}
theorem w_and1 (ha : QT X W a ba) : QW X W (.BoolOp .And [a] pos) ba := pw_and1 ha
theorem w_or1 (ha : QT X W a ba) : QW X W (.BoolOp .Or [a] pos) ba := pw_or1 ha
theorem w_and (ha : QT X W a ba) (hb : QW X W (.BoolOp .And (b :: rest) pos) bb) : QW X W (.BoolOp .And (a :: b :: rest) pos) (andB ba bb) := by
  refine PW.imp (pw_and ha hb) fun σ H Q ⟨ι, F, S, sl, hz, hs, rel, q⟩ => ?_
  refine ⟨ι, F, S, sl, hz, hs, rel, Aft.imp (Aft.bind q) fun k S1 ι1 F1 H1 ⟨s1, r1, h1⟩ => ?_⟩
  cases k with
  | true => exact iteT ⟨ι1, F1, S1, sl, hz, hs.stp s1, r1, by simpa using h1⟩
  | false => exact iteF ((by simpa using h1 : Aft X.K X.mg W σ ι1 F1 H1 S1.length (.ok false S1) _) ι1 F1 H1 .refl r1)
theorem w_or (ha : QT X W a ba) (hb : QW X W (.BoolOp .Or (b :: rest) pos) bb) : QW X W (.BoolOp .Or (a :: b :: rest) pos) (orB ba bb) := by
  refine PW.imp (pw_or ha hb) fun σ H Q ⟨ι, F, S, sl, hz, hs, rel, q⟩ => ?_
  refine ⟨ι, F, S, sl, hz, hs, rel, Aft.imp (Aft.bind q) fun k S1 ι1 F1 H1 ⟨s1, r1, h1⟩ => ?_⟩
  cases k with
  | false => exact iteF ⟨ι1, F1, S1, sl, hz, hs.stp s1, r1, by simpa using h1⟩
  | true => exact iteT ((by simpa using h1 : Aft X.K X.mg W σ ι1 F1 H1 S1.length (.ok true S1) _) ι1 F1 H1 .refl r1)
theorem t_bool {op : BoolOp} (h : QW X W (.BoolOp op es pos) ba) : QT X W (.BoolOp op es pos) ba := PW.pt h
theorem t_not (ha : QT X W a ba) : QT X W (.UnaryOp .Not a pos) (notB ba) := by
  refine PT.imp (pt_not ha) fun σ H Q ⟨ι, F, S, sl, hz, hs, rel, q⟩ => ?_
  exact ⟨ι, F, S, sl, hz, hs, rel, Aft.imp (Aft.bind q) fun k S1 ι1 F1 H1 ⟨s1, r1, h1⟩ => h1 ι1 F1 H1 .refl r1⟩
/-- as values -/
def isB (x : Val) : R Val → R Val := fun r => r
def andV (f g : DE) : DE := fun sl S => (f sl S).bind fun x S1 => match x with
  | .d (.bool true) => g sl S1
  | .d (.bool false) => .ok (.d (.bool false)) S1
  | _ => .bad
def orV (f g : DE) : DE := fun sl S => (f sl S).bind fun x S1 => match x with
  | .d (.bool true) => .ok (.d (.bool true)) S1
  | .d (.bool false) => g sl S1
  | _ => .bad
def notV (f : DE) : DE := fun sl S => (f sl S).bind fun x S1 => match x with
  | .d (.bool b) => .ok (.d (.bool !b)) S1
  | _ => .bad
theorem q_one {op : BoolOp} (ha : QE X W a fa) : QE X W (.BoolOp op [a] pos) fa := pe_one ha
theorem q_and (ha : QE X W a fa) (hb : QE X W (.BoolOp .And (b :: rest) pos) fb) : QE X W (.BoolOp .And (a :: b :: rest) pos) (andV fa fb) := by
  refine PE.imp (pe_and ha hb) fun σ H Q ⟨ι, F, S, sl, hz, hs, rel, q⟩ => ?_
  refine ⟨ι, F, S, sl, hz, hs, rel, Aft.imp (Aft.bind q) fun x S1 ι1 F1 H1 ⟨s1, r1, h1⟩ u ru => ?_⟩
  split at h1
  · cases ru
    exact ⟨true, rfl, iteT ⟨ι1, F1, S1, sl, hz, hs.stp s1, r1, h1⟩⟩
  · cases ru
    exact ⟨false, rfl, iteF (h1 ι1 F1 H1 .refl r1 _ (Dq.bl false))⟩
  · exact h1.elim
theorem q_or (ha : QE X W a fa) (hb : QE X W (.BoolOp .Or (b :: rest) pos) fb) : QE X W (.BoolOp .Or (a :: b :: rest) pos) (orV fa fb) := by
  refine PE.imp (pe_or ha hb) fun σ H Q ⟨ι, F, S, sl, hz, hs, rel, q⟩ => ?_
  refine ⟨ι, F, S, sl, hz, hs, rel, Aft.imp (Aft.bind q) fun x S1 ι1 F1 H1 ⟨s1, r1, h1⟩ u ru => ?_⟩
  split at h1
  · cases ru
    exact ⟨true, rfl, iteT (h1 ι1 F1 H1 .refl r1 _ (Dq.bl true))⟩
  · cases ru
    exact ⟨false, rfl, iteF ⟨ι1, F1, S1, sl, hz, hs.stp s1, r1, h1⟩⟩
  · exact h1.elim
theorem q_not (ha : QE X W a fa) : QE X W (.UnaryOp .Not a pos) (notV fa) := by
  refine PE.imp (pe_not ha) fun σ H Q ⟨ι, F, S, sl, hz, hs, rel, q⟩ => ?_
  refine ⟨ι, F, S, sl, hz, hs, rel, Aft.imp (Aft.bind q) fun x S1 ι1 F1 H1 ⟨s1, r1, h1⟩ u ru => ?_⟩
  split at h1
  · cases ru
    exact ⟨_, rfl, h1 ι1 F1 H1 .refl r1 _ (Dq.bl _)⟩
  · exact h1.elim
def ifE (f : DB) (g h : DE) : DE := fun sl S => (f sl S).bind fun b S1 => if b = true then g sl S1 else h sl S1
theorem q_if (hc : QT X W c ba) (ha : QE X W a fa) (hb : QE X W b fb) : QE X W (.IfExp c a b pos) (ifE ba fa fb) := by
  refine PE.imp (pe_ifExp hc ha hb) fun σ H Q ⟨ι, F, S, sl, hz, hs, rel, q⟩ => ?_
  refine ⟨ι, F, S, sl, hz, hs, rel, Aft.imp (Aft.bind q) fun k S1 ι1 F1 H1 ⟨s1, r1, h1⟩ => ?_⟩
  cases k with
  | true => exact iteT ⟨ι1, F1, S1, sl, hz, hs.stp s1, r1, by simpa using h1⟩
  | false => exact iteF ⟨ι1, F1, S1, sl, hz, hs.stp s1, r1, by simpa using h1⟩
/-- a chain of two comparisons -/
def chain (g g' : PyData → PyData → Option PyData) (fa fb fc : DE) : DE := fun sl S => (fa sl S).bind fun x S1 => (fb sl S1).bind fun y S2 => (two g S2 x y).bind fun z S3 => match z with
  | .d (.bool true) => (fc sl S3).bind fun w S4 => two g' S4 y w
  | .d (.bool false) => .ok (.d (.bool false)) S3
  | _ => .bad

/-! ### argument lists -/
def nilL : DL := fun _ S => .ok [] S
def consL (f : DE) (g : DL) : DL := fun sl S => (f sl S).bind fun x S1 => (g sl S1).bind fun xs S2 => .ok (x :: xs) S2
variable {la : DL}
theorem a_nil : QA X W [] nilL := PA.imp pa_nil fun σ H Q ⟨ι, F, S, sl, hz, hs, rel, q⟩ => q ι F H .refl rel [] .nil
theorem a_cons (ha : QE X W e f) (hr : QA X W es la) (hs : starEach (e :: es) X.env = (false, eval e X.env) :: starEach es X.env := by rfl) : QA X W (e :: es) (consL f la) := by
  refine PA.imp (pa_cons ha hr hs) fun σ H Q ⟨ι, F, S, sl, hz, hs, rel, q⟩ => ?_
  refine ⟨ι, F, S, sl, hz, hs, rel, Aft.imp (Aft.bind q) fun x S1 ι1 F1 H1 ⟨s1, r1, h1⟩ u ru => ?_⟩
  refine ⟨ι1, F1, S1, sl, hz, hs.stp s1, r1, Aft.imp h1.bind fun xs S2 ι2 F2 H2 ⟨s2, r2, h2⟩ us rus => ?_⟩
  exact h2 ι2 F2 H2 .refl r2 _ (.cons (ru.stp s2) rus)
end
end DV
set_option Elab.async false
set_option linter.all false
set_option maxRecDepth 100000
namespace DV
open PySem PySem.Spec PyProof.Rows L2
abbrev tupObj (its : List Value) : Obj := { cls := .type "tuple", data := .seq its.toArray }
abbrev TupF (its : List Value) (xs : List V) : HO := .frz (tupObj its) (.tup xs)
section
variable {X : Cx} {es : List Expr} {pos : Pos} {t : TA} {pins : List (Addr × Obj)} {σ : L2.St} {H : Hp} {s : Shared}
theorem tupF_ok {P : Program} {w : World} {H : Hp} {h : Heap} {a : Addr} {its : List Value} {xs : List V} (e : h.get? a = some (tupObj its)) (z : xs.length ≤ sizeLine) (r : Vals xs its) : ObjOk P w H h a (TupF its xs) :=
  ⟨e, z, its, r, ⟨_, e, rfl, _, rfl⟩⟩
theorem SqT.ofF {K : PySem.W.Frag} {H : Hp} {a : Addr} {o : Obj} {xs : List V} (h : H a = some (.frz o (.tup xs))) : SqT K H a xs := .inl (.inr ⟨o, h⟩)
theorem PlainT.of {H : Hp} {a : Addr} {its : List Value} {xs : List V} (h : H a = some (TupF its xs)) : PlainT H a := ⟨_, _, h, rfl⟩
/-- a tuple just laid is known by its object -/
theorem lay_tupF {its : List Value} {xs : List V} (I : Inv X pins σ H s) (vals : Vals xs its) (small : xs.length ≤ sizeLine) : Inv X pins σ (upd H s.heap.objs.size (TupF its xs)) { s with heap := s.heap.push (tupObj its) } :=
  I.laid (t' := s.toks) (fun _ _ => Heap.get?_push_of_some _) (Nat.le_refl _) (tupF_ok (Heap.get?_push_size _ rfl) small vals)
theorem new_tupF {its : List Value} {xs : List V} {Q : VK} (I : Inv X pins σ H s) (vals : Vals xs its) (small : xs.length ≤ sizeLine) (h : ∀ p its, H p = none → Q (.ref p) (upd H p (TupF its xs))) : EP X pins σ Q (.ref s.heap.objs.size) { s with heap := s.heap.push (tupObj its) } :=
  ⟨.ref s.heap.objs.size, _, lay_tupF I vals small, rfl, h _ its (I.hok.fresh (Nat.le_refl _))⟩
/-- (a, b, ..) -/
def tTupF (t : TA) : TE := fun σ H Q => t σ H fun xs H1 => xs.length ≤ sizeLine ∧ ∀ p its, H1 p = none → Q (.ref p) (upd H1 p (TupF its xs))
theorem pe_tupF {x1} (items : PA X es t) : PE X (.Tuple es x1 pos) (tTupF t) := by
  constructor
  intro pins s σ H Q I want
  apply wpAny_Tuple_spliced
  apply thn (items.run pos pins s σ H _ I want)
  rintro us s1 ⟨xs, H1, I1, vals, small, q⟩
  exact ⟨vals.length ▸ small, new_tupF I1 vals small q⟩
/-- tuple(x) -/
def rTupF (K : PySem.W.Frag) : List V → Hp → VK → Prop := fun xs H Q => ∃ p ys, xs = [.ref p] ∧ ((SqL K H p ys ∧ ∀ l its, H l = none → Q (.ref l) (upd H l (TupF its ys))) ∨ (SqT K H p ys ∧ Q (.ref p) H))
theorem call_tupleF : CallR X (.type "tuple") (rTupF X.K) := by
  rintro pins s σ H _ us Q I args ⟨p, ys, rfl, want⟩
  obtain ⟨u, rfl, ru⟩ := vals1 args
  obtain rfl : u = Value.ref p := ru
  cases want with
  | inr w =>
    obtain ⟨_, _, plain, _⟩ := I.tuple w.1
    exact call_tuple_same plain ⟨.ref p, H, I, rfl, w.2⟩
  | inl w =>
    obtain ⟨its, vals, plain, small⟩ := I.list w.1
    refine call_tuple_list plain.isList (fun h' keeps => new_tupF (I.kept (t' := s.toks) keeps) vals small w.2) ?_
    show its.length ≤ sizeLine
    exact vals.length ▸ small
/-- t + u -/
def rCatF (K : PySem.W.Frag) : R2 := fun x y H Q => ∃ a b xs ys, x = .ref a ∧ y = .ref b ∧ SqT K H a xs ∧ SqT K H b ys ∧ xs.length + ys.length ≤ sizeLine ∧
  (xs = [] → Q (.ref b) H) ∧ (xs ≠ [] → ys = [] → Q (.ref a) H) ∧ (xs ≠ [] → ys ≠ [] → ∀ p its, H p = none → Q (.ref p) (upd H p (TupF its (xs ++ ys))))
theorem op_catF : OpR X (binaryOp .Add) (rCatF X.K) := by
  rintro pins s σ H _ _ v u Q I rv ru ⟨a, b, xs, ys, rfl, rfl, left, right, small, none_left, none_right, both⟩
  obtain rfl : v = Value.ref a := rv
  obtain rfl : u = Value.ref b := ru
  obtain ⟨its, vals, tl, _⟩ := I.tuple left
  obtain ⟨its2, vals2, tr, _⟩ := I.tuple right
  cases xs with
  | nil =>
    cases vals
    exact cat_tup0 tl tr ⟨.ref b, H, I, rfl, none_left rfl⟩
  | cons x xs =>
    have len : its.length + its2.length ≤ sizeLine := vals.length ▸ vals2.length ▸ small
    refine HT.cat_tup tl tr (fun z => nomatch vals.nil_iff.mp z) (fun z => ⟨.ref a, H, I, rfl, none_right (fun e => nomatch e) (vals2.nil_iff.mp z)⟩) (fun z => ?_) len
    have made := new_tupF I (vals.append vals2) (by rw [List.length_append]; exact small) (both (fun e => nomatch e) fun w => z (vals2.nil_iff.mpr w))
    simpa using made
/-- t[lo:hi] -/
def rSlF (K : PySem.W.Frag) : V → Option Int → Option Int → Hp → VK → Prop := fun x lo hi H Q => ∃ a xs, x = .ref a ∧ SqT K H a xs ∧
  (HT.sIx xs.length 0 lo = 0 ∧ HT.sIx xs.length xs.length hi = xs.length → Q (.ref a) H) ∧ (¬ (HT.sIx xs.length 0 lo = 0 ∧ HT.sIx xs.length xs.length hi = xs.length) → ∀ p its, H p = none → Q (.ref p) (upd H p (TupF its (cutV xs lo hi))))
theorem sl_tupF : L2.SlR X (rSlF X.K) := by
  rintro pins s σ H _ v vl vu lo hi sl Q I rv slice from_ to ⟨a, xs, rfl, there, all, part⟩
  obtain rfl : v = Value.ref a := rv
  obtain ⟨its, vals, tup, small⟩ := I.tuple there
  have len : its.toArray.size = xs.length := vals.length.symm
  refine ⟨"tuple", _, PyProof.Rows.slot_tuple_getitem.lookup, tup.typeIs, ?_⟩
  by_cases whole : HT.sIx xs.length 0 lo = 0 ∧ HT.sIx xs.length xs.length hi = xs.length
  · exact getItem_tuple_whole tup slice from_ to (len ▸ whole) ⟨.ref a, H, I, rfl, all whole⟩
  · refine HT.getItem_tuple_cut tup slice from_ to (len ▸ whole) ?_ (len ▸ small)
    have made := new_tupF I ((vals.drop (HT.sIx xs.length 0 lo)).take (HT.sIx xs.length xs.length hi - HT.sIx xs.length 0 lo)) (Nat.le_trans (cutV_length xs lo hi) small) (part whole)
    rw [len]
    exact made
end
end DV
set_option Elab.async false
set_option linter.all false
set_option maxRecDepth 100000
namespace DV
open PySem PySem.Spec PyProof.Rows L2

/-! ### giving away: an owned list becomes data -/
def fzd (S : Sto) : Val → Option PyData
  | .d x => some x
  | .loc j => match S[j]? with
    | some (.frz ds) => some (.list ds)
    | _ => none
def fzds (S : Sto) : List Val → Option (List PyData)
  | [] => some []
  | y :: ys => match fzd S y, fzds S ys with
    | some d, some ds => some (d :: ds)
    | _, _ => none
def eachS (f : Sto → Val → Option Sto) : Sto → List Val → Option Sto
  | S, [] => some S
  | S, y :: ys => match f S y with
    | some S1 => eachS f S1 ys
    | none => none
def frzS : Nat → Sto → Val → Option Sto
  | _, S, .d _ => some S
  | 0, _, .loc _ => none
  | n + 1, S, .loc k => match S[k]? with
    | some (.frz _) => some S
    | some (.lst xs) => match eachS (frzS n) S xs with
      | some S1 => match S1[k]? with
        | some (.lst ys) => match fzds S1 ys with
          | some ds => some (S1.set k (.frz ds))
          | none => none
        | _ => none
      | none => none
    | some (.gh _) => none
    | none => none
def frz (S : Sto) (x : Val) : Option (PyData × Sto) := match x with
  | .d x => some (x, S)
  | .loc k => match frzS 4 S (.loc k) with
    | some S1 => match fzd S1 (.loc k) with
      | some d => some (d, S1)
      | none => none
    | none => none
def frzL : Sto → List Val → Option (List PyData × Sto)
  | S, [] => some ([], S)
  | S, x :: xs => match frz S x with
    | some (d, S1) => match frzL S1 xs with
      | some (ds, S2) => some (d :: ds, S2)
      | none => none
    | none => none
section
variable {K : PySem.W.Frag} {ι : Nat → Addr} {F H : Hp}
/-- a ghost step: nothing but F changes -/
def Gh (K : PySem.W.Frag) (ι : Nat → Addr) (H : Hp) (S : Sto) (F : Hp) (S' : Sto) (F' : Hp) : Prop := S'.length = S.length ∧ Stp ι F H S.length ι F' H S'.length ∧ Rel K ι F' H S'
theorem Gh.trans {S S1 S2 : Sto} {F1 F2 : Hp} (a : Gh K ι H S F S1 F1) (b : Gh K ι H S1 F1 S2 F2) : Gh K ι H S F S2 F2 := ⟨b.1.trans a.1, a.2.1.trans b.2.1, b.2.2⟩
theorem fzds_ok {S : Sto} (rel : Rel K ι F H S) : ∀ {ys : List Val} {ds : List PyData} {vs : List V}, fzds S ys = some ds → RVs K ι F S.length vs ys → DqAll K F vs ds
  | [], ds, vs, e, r => by cases r; simp [fzds] at e; subst e; exact .nil
  | y :: ys, ds, _, e, r => by
    cases r with
    | cons a b =>
      unfold fzds at e
      split at e
      · rename_i d es e1 e2
        cases e
        refine .cons ?_ (fzds_ok rel e2 b)
        cases y with
        | d x => simp [fzd] at e1; subst e1; exact a
        | loc j =>
          unfold fzd at e1
          dsimp only at e1
          split at e1
          · rename_i x q
            cases e1
            obtain ⟨vs, h1, h2⟩ := rel.obj j _ q
            rw [a.2]
            exact .lst h1 h2
          · cases e1
      · cases e
theorem frz_set {S : Sto} {k : Nat} {ys : List Val} {ds : List PyData} (rel : Rel K ι F H S) (e : S[k]? = some (.lst ys)) (ed : fzds S ys = some ds) : ∃ F', Gh K ι H S F (S.set k (.frz ds)) F' := by
  obtain ⟨f0, vs, h1, h2⟩ := rel.obj k _ e
  have hk : k < S.length := (List.getElem?_eq_some_iff.mp e).1
  have dq := fzds_ok rel ed h2
  have ff : Same F (upd F (ι k) (.lst vs)) := fun a o h => by rw [upd_ne (ne_of_none h f0)]; exact h
  have sub : Same (upd F (ι k) (.lst vs)) H := fun a o h => by
    by_cases q : a = ι k
    · subst q; rw [upd_same] at h; cases h; exact h1
    · rw [upd_ne q] at h; exact rel.sub _ _ h
  have fnew : ∀ a o, upd F (ι k) (.lst vs) a = some o → F a = some o ∨ a = ι k := fun a o h => by
    by_cases q : a = ι k
    · exact .inr q
    · rw [upd_ne q] at h; exact .inl h
  refine ⟨upd F (ι k) (.lst vs), List.length_set, ?_, ?_⟩
  · rw [List.length_set]
    exact ⟨Nat.le_refl _, fun _ _ => rfl, ff, fun _ _ h _ => h, fun _ o h => ⟨o, h⟩, fun _ h1 h2 => absurd (Nat.lt_of_le_of_lt h1 h2) (Nat.lt_irrefl _), fun a o h => (fnew a o h).elim .inl fun q => .inr (.inr ⟨k, hk, q.symm⟩)⟩
  · refine ⟨sub, fun i j hi hj => rel.inj i j (by simpa using hi) (by simpa using hj), fun j o ej => ?_⟩
    rw [List.length_set]
    by_cases q : j = k
    · subst q
      rw [List.getElem?_set_self hk] at ej
      cases ej
      exact ⟨vs, upd_same, DqAll.mono ff _ _ dq⟩
    · rw [List.getElem?_set_ne (Ne.symm q)] at ej
      have hj : j < S.length := (List.getElem?_eq_some_iff.mp ej).1
      have := rel.obj j o ej
      cases o with
      | frz x =>
        obtain ⟨ws, g1, g2⟩ := this
        exact ⟨ws, ff _ _ g1, DqAll.mono ff _ _ g2⟩
      | lst xs =>
        obtain ⟨g0, ws, g1, g2⟩ := this
        exact ⟨by rw [upd_ne fun e => q (rel.inj j k hj hk e)]; exact g0, ws, g1, g2.mono (Nat.le_refl _) (fun _ _ => rfl) ff⟩
      | gh x =>
        obtain ⟨g0, g1⟩ := this
        exact ⟨by rw [upd_ne fun e => q (rel.inj j k hj hk e)]; exact g0, g1.ext ff fun _ _ h => h⟩
theorem Gh.refl {S : Sto} (rel : Rel K ι F H S) : Gh K ι H S F S F := ⟨rfl, .refl, rel⟩
theorem frzS_ok : ∀ (n : Nat) {S S' : Sto} {x : Val} {F : Hp}, frzS n S x = some S' → Rel K ι F H S → ∃ F', Gh K ι H S F S' F'
  | n, S, S', .d x, F, e, rel => by
    cases n <;> simp [frzS] at e <;> subst e <;> exact ⟨F, .refl rel⟩
  | 0, S, S', .loc k, F, e, rel => by simp [frzS] at e
  | n + 1, S, S', .loc k, F, e, rel => by
    unfold frzS at e
    split at e
    · cases e; exact ⟨F, .refl rel⟩
    · rename_i xs q
      have each : ∀ (ys : List Val) {T T' : Sto} {G : Hp}, eachS (frzS n) T ys = some T' → Rel K ι G H T → ∃ G', Gh K ι H T G T' G' := by
        intro ys
        induction ys with
        | nil => intro T T' G e r; simp [eachS] at e; subst e; exact ⟨G, .refl r⟩
        | cons y ys ih =>
          intro T T' G e r
          unfold eachS at e
          split at e
          · rename_i T1 e1
            obtain ⟨G1, g1⟩ := frzS_ok n e1 r
            obtain ⟨G2, g2⟩ := ih e g1.2.2
            exact ⟨G2, g1.trans g2⟩
          · cases e
      split at e
      · rename_i S1 e1
        obtain ⟨F1, g1⟩ := each xs e1 rel
        split at e
        · rename_i ys q1
          split at e
          · rename_i ds ed
            cases e
            obtain ⟨F2, g2⟩ := frz_set g1.2.2 q1 ed
            exact ⟨F2, g1.trans g2⟩
          · cases e
        · cases e
      · cases e
    · cases e
    · cases e
theorem frz_ok {S S' : Sto} {x : Val} {d : PyData} {u : V} (e : frz S x = some (d, S')) (rel : Rel K ι F H S) (ru : RV K ι F S.length u x) : ∃ F', Gh K ι H S F S' F' ∧ Dq K F' u d := by
  cases x with
  | d x => simp [frz] at e; obtain ⟨rfl, rfl⟩ := e; exact ⟨F, .refl rel, ru⟩
  | loc k =>
    unfold frz at e
    dsimp only at e
    split at e
    · rename_i S1 e1
      obtain ⟨F1, g1⟩ := frzS_ok 4 e1 rel
      split at e
      · rename_i d' e2
        cases e
        refine ⟨F1, g1, ?_⟩
        unfold fzd at e2
        dsimp only at e2
        split at e2
        · rename_i x q
          cases e2
          rw [ru.2]
          obtain ⟨vs, h1, h2⟩ := g1.2.2.obj k _ q
          exact .lst h1 h2
        · cases e2
      · cases e
    · cases e
theorem frzL_ok : ∀ {xs : List Val} {S S' : Sto} {ds : List PyData} {us : List V} {F : Hp}, frzL S xs = some (ds, S') → Rel K ι F H S → RVs K ι F S.length us xs → ∃ F', Gh K ι H S F S' F' ∧ DqAll K F' us ds
  | [], S, S', ds, us, F, e, rel, r => by
    simp [frzL] at e
    obtain ⟨rfl, rfl⟩ := e
    cases r
    exact ⟨F, .refl rel, .nil⟩
  | x :: xs, S, S', ds, us, F, e, rel, r => by
    cases r with
    | cons a b =>
      unfold frzL at e
      split at e
      · rename_i d S1 e1
        obtain ⟨F1, g1, d1⟩ := frz_ok e1 rel a
        split at e
        · rename_i es S2 e2
          cases e
          obtain ⟨F2, g2, d2⟩ := frzL_ok e2 g1.2.2 (b.stp g1.2.1)
          exact ⟨F2, g1.trans g2, .cons (Dq.mono g2.2.1.ff _ _ d1) d2⟩
        · cases e
      · cases e
theorem frzL_data (S : Sto) : ∀ ds : List PyData, frzL S (ds.map .d) = some (ds, S)
  | [] => rfl
  | d :: ds => by
    show frzL S (.d d :: ds.map .d) = _
    unfold frzL
    simp only [frz, frzL_data S ds]
end
section
variable {K : PySem.W.Frag} {ι : Nat → Addr} {F H : Hp}
/-- a new owned list -/
theorem own_new {S : Sto} {xs : List Val} {us : List V} {p : Addr} (rel : Rel K ι F H S) (hp : H p = none) (rus : RVs K ι F S.length us xs) :
    ∃ ι', Stp ι F H S.length ι' F (upd H p (.lst us)) (S ++ [Ob.lst xs]).length ∧ Rel K ι' F (upd H p (.lst us)) (S ++ [.lst xs]) ∧ ι' S.length = p := by
  have fp : F p = none := rel.sub.free hp
  have hlen : (S ++ [Ob.lst xs]).length = S.length + 1 := by simp
  have hne : ∀ a o, H a = some o → a ≠ p := fun a o h => ne_of_none h hp
  have old : ∀ k, k < S.length → ι k ≠ p := fun k hk e => by
    obtain ⟨o, eo⟩ : ∃ o, S[k]? = some o := ⟨_, List.getElem?_eq_getElem hk⟩
    have := rel.obj k o eo
    cases o with
    | lst ys => obtain ⟨_, vs, g1, _⟩ := this; rw [e, hp] at g1; cases g1
    | frz x => obtain ⟨vs, g1, _⟩ := this; rw [e, fp] at g1; cases g1
    | gh x => obtain ⟨_, g0⟩ := this; obtain ⟨ps, g1, _⟩ := g0.at_; rw [e, hp] at g1; cases g1
  let ι' : Nat → Addr := fun k => if k = S.length then p else ι k
  have ag : ∀ k, k < S.length → ι' k = ι k := fun k hk => if_neg (Nat.ne_of_lt hk)
  have at_ : ι' S.length = p := if_pos rfl
  refine ⟨ι', ?_, ?_, at_⟩
  · refine ⟨by omega, ag, Same.refl _, fun a o h _ => by rw [upd_ne (hne a o h)]; exact h, fun a o h => ⟨o, by rw [upd_ne (hne a o h)]; exact h⟩, fun k h1 h2 => ?_, fun a o h => .inl h⟩
    have : k = S.length := by omega
    rw [this, at_]
    exact hp
  · refine ⟨fun a o h => by rw [upd_ne (hne a o (rel.sub _ _ h))]; exact rel.sub _ _ h, fun i j hi hj e => ?_, fun k o e => ?_⟩
    · rw [hlen] at hi hj
      by_cases qi : i = S.length
      · by_cases qj : j = S.length
        · omega
        · rw [qi, at_, ag j (by omega)] at e
          exact absurd e.symm (old j (by omega))
      · by_cases qj : j = S.length
        · rw [qj, at_, ag i (by omega)] at e
          exact absurd e (old i (by omega))
        · rw [ag i (by omega), ag j (by omega)] at e
          exact rel.inj i j (by omega) (by omega) e
    · rw [hlen]
      by_cases q : k = S.length
      · subst q
        rw [List.getElem?_append_right (Nat.le_refl _)] at e
        simp at e
        subst e
        rw [at_]
        exact ⟨fp, us, upd_same, rus.mono (Nat.le_succ _) ag (Same.refl _)⟩
      · have hk : k < S.length := by
          have := (List.getElem?_eq_some_iff.mp e).1
          rw [hlen] at this
          omega
        rw [List.getElem?_append_left hk] at e
        rw [ag k hk]
        have := rel.obj k o e
        cases o with
        | frz x => exact this
        | lst ys =>
          obtain ⟨g0, ws, g1, g2⟩ := this
          exact ⟨g0, ws, by rw [upd_ne (hne _ _ g1)]; exact g1, g2.mono (Nat.le_succ _) ag (Same.refl _)⟩
        | gh x =>
          obtain ⟨g0, g2⟩ := this
          exact ⟨g0, g2.ext (Same.refl _) fun b o h => by rw [upd_ne (hne b o h)]; exact h⟩
end
/-- operands as data, now -/
inductive RDs (K : PySem.W.Frag) (F H : Hp) : List V → List PyData → Prop
  | nil : RDs K F H [] []
  | cons {v : V} {x : PyData} {vs : List V} {xs : List PyData} : RD K F H v x → RDs K F H vs xs → RDs K F H (v :: vs) (x :: xs)
section
variable {X : Cx} {W : WX} {a b c e : Expr} {es : List Expr} {fa fb fc f : DE} {la : DL} {pos p p2 : Pos}

/-! ### displays -/
def tupE (la : DL) : DE := fun sl S => (la sl S).bind fun xs S1 => match frzL S1 xs with
  | some (ds, S2) => if ds.length ≤ sizeLine then .ok (.d (.tuple ds)) S2 else .bad
  | none => .bad
theorem q_tup {x1} (h : QA X W es la) : QE X W (.Tuple es x1 pos) (tupE la) := by
  refine PE.imp (pe_tupF h) fun σ H Q ⟨ι, F, S, sl, hz, hs, rel, q⟩ => ?_
  refine ⟨ι, F, S, sl, hz, hs, rel, Aft.imp (Aft.bind q) fun xs S1 ι1 F1 H1 ⟨s1, r1, h1⟩ us rus => ?_⟩
  split at h1
  · rename_i ds S2 e2
    split at h1
    · rename_i hl
      obtain ⟨F2, g2, d2⟩ := frzL_ok e2 r1 rus
      refine ⟨by rw [d2.length]; exact hl, fun q its hq => ?_⟩
      have g := Grow.new (o := TupF its us) g2.2.2.sub hq
      exact h1 ι1 _ _ (g2.2.1.trans g.stp) (g2.2.2.grow g) _ (.tup (SqT.ofF upd_same) (DqAll.mono g.ff _ _ d2) fun _ => .of upd_same)
    · exact h1.elim
  · exact h1.elim
/-- a new list: its items -/
abbrev DF := Sl → Sto → R (List Val)
/-- .. kept as an owned list; given away at once -/
def ownE (g : DF) : DE := fun sl S => (g sl S).bind fun xs S1 => .ok (.loc S1.length) (S1 ++ [.lst xs])
def frzE (g : DF) : DE := fun sl S => (g sl S).bind fun xs S1 => match frzL S1 xs with
  | some (ds, S2) => .ok (.d (.list ds)) S2
  | none => .bad
def tF (K : PySem.W.Frag) (mg : Str → Option Value) (W : WX) (g : DF) : TE := fun σ H Q => ∃ ι F S sl, sl.length ≤ σ.length ∧ SlR K ι F S.length σ sl ∧ Rel K ι F H S ∧
  Aft K mg W σ ι F H S.length (g sl S) fun xs S' ι' F' H' => ∀ p us, H' p = none → RVs K ι' F' S'.length us xs → Q (.ref p) (upd H' p (.lst us))
def QF (X : Cx) (W : WX) (e : Expr) (g : DF) : Prop := PE X e (tF X.K X.mg W g)
theorem q_own {g : DF} (h : QF X W e g) : QE X W e (ownE g) := by
  refine PE.imp h fun σ H Q ⟨ι, F, S, sl, hz, hs, rel, q⟩ => ?_
  refine ⟨ι, F, S, sl, hz, hs, rel, Aft.imp (Aft.bind q) fun xs S1 ι1 F1 H1 ⟨s1, r1, h1⟩ p us hp rus => ?_⟩
  obtain ⟨ι', s', r', at_⟩ := own_new r1 hp rus
  exact h1 ι' _ _ s' r' _ ⟨by simp, by rw [at_]⟩
theorem q_frz {g : DF} (h : QF X W e g) : QE X W e (frzE g) := by
  refine PE.imp h fun σ H Q ⟨ι, F, S, sl, hz, hs, rel, q⟩ => ?_
  refine ⟨ι, F, S, sl, hz, hs, rel, Aft.imp (Aft.bind q) fun xs S1 ι1 F1 H1 ⟨s1, r1, h1⟩ p us hp rus => ?_⟩
  split at h1
  · rename_i ds S2 e2
    obtain ⟨F2, g2, d2⟩ := frzL_ok e2 r1 rus
    have g := Grow.new (o := .lst us) g2.2.2.sub hp
    exact h1 ι1 _ _ (g2.2.1.trans g.stp) (g2.2.2.grow g) _ (.lst upd_same (DqAll.mono g.ff _ _ d2))
  · exact h1.elim
/-- [a, b, ..] -/
def szF (g : DF) : DF := fun sl S => (g sl S).bind fun xs S1 => if xs.length ≤ sizeLine then .ok xs S1 else .bad
theorem f_lst (h : QA X W es la) : QF X W (.List es pos) (szF la) := by
  refine PE.imp (pe_lst h) fun σ H Q ⟨ι, F, S, sl, hz, hs, rel, q⟩ => ?_
  refine ⟨ι, F, S, sl, hz, hs, rel, Aft.imp (Aft.bind q) fun xs S1 ι1 F1 H1 ⟨s1, r1, h1⟩ us rus => ?_⟩
  split at h1
  · rename_i hl
    exact ⟨by rw [rus.length]; exact hl, fun p hp => h1 ι1 F1 H1 .refl r1 p us hp rus⟩
  · exact h1.elim

/-! ### built-ins by their names -/
/-- a rule of a call that serves a function of data -/
def CaD (K : PySem.W.Frag) (r : List V → Hp → VK → Prop) (g : List PyData → Option PyData) : Prop :=
  ∀ (F H : Hp) (us : List V) (xs : List PyData) (z : PyData) (Q : VK), Same F H → RDs K F H us xs → g xs = some z → (∀ t F' H', Grow F H F' H' → Dq K F' t z → Q t H') → r us H Q
def dats (S : Sto) : List Val → Option (List PyData)
  | [] => some []
  | x :: xs => match dat S x, dats S xs with
    | some d, some ds => some (d :: ds)
    | _, _ => none
theorem dats_ok {K : PySem.W.Frag} {ι : Nat → Addr} {F H : Hp} {S : Sto} (rel : Rel K ι F H S) : ∀ {xs : List Val} {ds : List PyData} {us : List V}, dats S xs = some ds → RVs K ι F S.length us xs → RDs K F H us ds
  | [], ds, us, e, r => by cases r; simp [dats] at e; subst e; exact .nil
  | x :: xs, ds, us, e, r => by
    cases r with
    | cons a b =>
      unfold dats at e
      split at e
      · rename_i d es e1 e2
        cases e
        exact .cons (a.dat rel e1) (dats_ok rel e2 b)
      · cases e
def blt (g : List PyData → Option PyData) (la : DL) : DE := fun sl S => (la sl S).bind fun xs S1 => match dats S1 xs with
  | some ds => okD (g ds) S1
  | none => .bad
theorem blt_ok {K : PySem.W.Frag} {mg : Str → Option Value} {σ : CxSt} {r : List V → Hp → VK → Prop} {g : List PyData → Option PyData} (hr : CaD K r g) {H : Hp} {Q : VK} (h : tE K mg W (blt g la) σ H Q) : tL K mg W la σ H fun us H1 => r us H1 Q := by
  obtain ⟨ι, F, S, sl, hz, hs, rel, q⟩ := h
  refine ⟨ι, F, S, sl, hz, hs, rel, Aft.imp (Aft.bind q) fun xs S1 ι1 F1 H1 ⟨s1, r1, h1⟩ us rus => ?_⟩
  split at h1
  · rename_i ds e1
    unfold okD at h1
    split at h1
    · rename_i z ez
      exact hr F1 H1 us ds z Q r1.sub (dats_ok r1 e1 rus) ez fun t F' H' g d => h1 ι1 F' H' g.stp (r1.grow g) t d
    · exact h1.elim
  · exact h1.elim
/-- .. with any rule for the call -/
theorem q_blt {r : List V → Hp → VK → Prop} {g : List PyData → Option PyData} {la : DL} (hr : CaD X.K r g) (h : PE X e (tCB r (tL X.K X.mg W la))) : QE X W e (blt g la) := PE.imp h fun σ H Q q => blt_ok hr q
end
end DV
set_option Elab.async false
set_option linter.all false
set_option maxRecDepth 100000
namespace DV
open PySem PySem.Spec PyProof.Rows L2

/-! ### a tuple once -/
theorem tuple_mul1 (l : Addr) (items : Array Value) (n : Nat) (dd : Option Addr) (sl : Array (Option Value)) (u : Tok) :
    Meets (Builtin.«tuple.__mul__» ⟨[.ref l, .int 1 u], []⟩) (fun _ R s => s.heap.get? l = some { cls := .type "tuple", dict := dd, data := .seq items n, slots := sl } ∧
      R (.ok (.ret (Value.ref l))) s) :=
  .of_wp fun prog w A R s h => by
    obtain ⟨hp, g, d, tk, os⟩ := s
    obtain ⟨hl, h⟩ := h
    have f1 := AutoSeq1.idx_int
    have c0 : (decide ((1 : Int) < -(2 ^ 63)) || decide ((1 : Int) ≥ 2 ^ 63)) = false := by decide +kernel
    have c1 : (items.isEmpty || (1 : Int) == 1) = true := by simp
    wp_walk using wpAny_loadPart' hl
    repeat (first
      | (refine wpAny_ite_false (decide_eq_false (by rw [c0]; exact Bool.false_ne_true)) ?_; wp_walk using wpAny_loadPart' hl)
      | (refine wpAny_ite_true (decide_eq_true c1) ?_; wp_walk using wpAny_loadPart' hl))
    exact ⟨_, rfl, h⟩
def rRepT1 (K : PySem.W.Frag) : R2 := fun x y H Q => ∃ l xs, x = .ref l ∧ y = .int 1 ∧ SqT K H l xs ∧ Q (.ref l) H
theorem op_repT1 {X : Cx} : OpR X (binaryOp .Mult) (rRepT1 X.K) := by
  intro pins s σ H x y v u Q I rx ry h
  obtain ⟨l, xs, rfl, rfl, hT, q⟩ := h
  cases rx
  obtain ⟨t, rfl⟩ := ry
  obtain ⟨its, r, ⟨⟨cls, dd, data, sl⟩, ho, hc, n, hd⟩, hs⟩ := I.tuple hT
  simp only at hc hd
  subst hc hd
  refine wpAny_binaryOp_repeat_ref (T := "tuple") (U := "int") (by decide) ⟨_, ho, rfl⟩ (fun s' => typeIs_int s' 1 t) noFill_tuple_mul F.fills_int_mul F.slot_int_rmul repeat_tuple F.slot_int_index.lookup
    (call_meets F.slot_int_rmul (typeIs_int s 1 t) F.entry_int_rmul (F.args_int_rmul_2 _ _) (int_rmul_tuple 1 t l its.toArray n dd sl)
      ⟨ho, rfl, ⟨_, ho, rfl⟩, call_meets F.slot_tuple_mul ⟨_, ho, rfl⟩ F.entry_tuple_mul (F.args_tuple_mul_2 _ _) (tuple_mul1 l its.toArray n dd sl t) ⟨ho, ?_⟩⟩)
  exact ⟨.ref l, H, I, rfl, q⟩
/-! ### + - * // % -/
def addD : PyData → PyData → Option PyData
  | .int i, .int j => some (.int (i + j))
  | .str a, .str b => if a.length + b.length ≤ sizeLine then some (.str (a ++ b)) else none
  | .tuple xs, .tuple ys => if xs.length + ys.length ≤ sizeLine then some (.tuple (xs ++ ys)) else none
  | .list xs, .list ys => if xs.length + ys.length ≤ sizeLine then some (.list (xs ++ ys)) else none
  | _, _ => none
def subD : PyData → PyData → Option PyData
  | .int i, .int j => some (.int (i - j))
  | _, _ => none
def mulD : PyData → PyData → Option PyData
  | .int i, .int j => if i.natAbs.log2 + j.natAbs.log2 < 1000000 then some (.int (i * j)) else none
  | .list xs, .int k => if decide (-(2 ^ 63) ≤ k) && decide (k < 2 ^ 63) && decide (xs.length * k.toNat ≤ sizeLine) then some (.list (List.replicate k.toNat xs).flatten) else none
  | .tuple xs, .int k => if decide (xs ≠ []) && decide (1 ≤ k) && decide (k ≤ 1000) && decide (xs.length ≤ 1000) && !sumlike xs then some (.tuple (List.replicate k.toNat xs).flatten) else none
  | _, _ => none
def divD : PyData → PyData → Option PyData
  | .int i, .int j => if decide (0 < j) && decide (j.natAbs.log2 < 9000) then some (.int (i / j)) else none
  | _, _ => none
def modD : PyData → PyData → Option PyData
  | .int i, .int j => if 0 < j then some (.int (i % j)) else none
  | _, _ => none
def powD : PyData → PyData → Option PyData
  | .int i, .int j => if decide (0 ≤ j) && decide (j ≤ 1000000) && decide (i.natAbs < 2 ^ 64) then some (.int (i ^ j.toNat)) else none
  | _, _ => none
def negD : PyData → Option PyData
  | .int i => some (.int (-i))
  | _ => none
section
variable {K : PySem.W.Frag} {X : Cx}
theorem DqAll.rep {F : Hp} {vs : List V} {ds : List PyData} (h : DqAll K F vs ds) : ∀ k : Nat, DqAll K F (List.replicate k vs).flatten (List.replicate k ds).flatten
  | 0 => by simp; exact .nil
  | k + 1 => by
    rw [List.replicate_succ, List.replicate_succ, List.flatten_cons, List.flatten_cons]
    exact h.append (h.rep k)
theorem DqAll.nil_iff {F : Hp} {vs : List V} {ds : List PyData} (h : DqAll K F vs ds) : vs = [] ↔ ds = [] := by
  have := h.length
  constructor
  · intro e; rw [e] at this; exact List.eq_nil_of_length_eq_zero this.symm
  · intro e; rw [e] at this; exact List.eq_nil_of_length_eq_zero this
theorem sumlike_app {xs ys : List PyData} (h : xs ≠ []) : sumlike (xs ++ ys) = sumlike xs := by
  cases xs with
  | nil => exact absurd rfl h
  | cons x xs =>
    show sumlike (x :: (xs ++ ys)) = sumlike (x :: xs)
    unfold sumlike
    split <;> split <;> simp_all
theorem sumlike_rep {xs : List PyData} {k : Nat} (h : xs ≠ []) (hk : 0 < k) : sumlike (List.replicate k xs).flatten = sumlike xs := by
  cases k with
  | zero => omega
  | succ k => rw [List.replicate_succ, List.flatten_cons, sumlike_app h]
/-- + : ints, texts, tuples, lists -/
def rAddA (K : PySem.W.Frag) : R2 := fun x y H Q => (rI0 fun i j => .int (i + j)) x y H Q ∨ (∃ i j, x = .str i ∧ y = .str j ∧ i.length + j.length ≤ sizeLine ∧ Q (.str (i ++ j)) H) ∨ rCatF K x y H Q ∨ rCat x y H Q
theorem op_addA : OpR X (binaryOp .Add) (rAddA X.K) := op_add.or (op_add_str.or (op_catF.or op_cat))
theorem d_add : OpD K (rAddA K) addD := fun F H u v x y z Q s ru rv e h => by
  unfold addD at e
  split at e
  · cases e
    exact .inl ⟨_, _, ru.int, rv.int, h _ F H (.refl s) (.int _)⟩
  · split at e
    · rename_i hl
      cases e
      exact .inr (.inl ⟨_, _, ru.str, rv.str, hl, h _ F H (.refl s) (.str _)⟩)
    · cases e
  · split at e
    · rename_i hl
      cases e
      obtain ⟨a, vs, rfl, h1, d1⟩ := ru.tuple s
      obtain ⟨b, us, rfl, h2, d2⟩ := rv.tuple s
      refine .inr (.inr (.inl ⟨a, b, vs, us, rfl, rfl, h1, h2, by rw [d1.length, d2.length]; exact hl, fun e => ?_, fun e1 e2 => ?_, fun _ _ p its hp => ?_⟩))
      · rw [d1.nil_iff.mp e, List.nil_append] at h
        rcases rv with q | ⟨_, _, _, _, e, _⟩ | ⟨_, _, _, e, _⟩
        · exact h _ F H (.refl s) q
        · cases e
        · cases e
      · rw [d2.nil_iff.mp e2, List.append_nil] at h
        rcases ru with q | ⟨_, _, _, _, e, _⟩ | ⟨_, _, _, e, _⟩
        · exact h _ F H (.refl s) q
        · cases e
        · cases e
      · have g := Grow.new (o := TupF its (vs ++ us)) s hp
        exact h _ _ _ g (.tup (SqT.ofF upd_same) (DqAll.mono g.ff _ _ (d1.append d2)) fun _ => .of upd_same)
    · cases e
  · split at e
    · rename_i hl
      cases e
      obtain ⟨a, vs, rfl, h1, d1⟩ := ru.list s
      obtain ⟨b, us, rfl, h2, d2⟩ := rv.list s
      refine .inr (.inr (.inr ⟨a, b, vs, us, rfl, rfl, h1, h2, by rw [d1.length, d2.length]; exact hl, fun p hp => ?_⟩))
      have g := Grow.new (o := .lst (vs ++ us)) s hp
      exact h _ _ _ g (.lst upd_same (DqAll.mono g.ff _ _ (d1.append d2)))
    · cases e
  · cases e
/-- a rule of ints -/
theorem d_int2 {C : Int → Int → Prop} {gi : Int → Int → Int} {g : PyData → PyData → Option PyData} (hg : ∀ x y z, g x y = some z → ∃ i j, x = .int i ∧ y = .int j ∧ C i j ∧ z = .int (gi i j)) : OpD K (rI C fun i j => .int (gi i j)) g := fun F H u v x y z Q s ru rv e h => by
  obtain ⟨i, j, rfl, rfl, c, rfl⟩ := hg x y z e
  exact ⟨i, j, ru.int, rv.int, c, h _ F H (.refl s) (.int _)⟩
theorem d_sub : OpD K (rI0 fun i j => .int (i - j)) subD := fun F H u v x y z Q s ru rv e h => by
  unfold subD at e
  split at e
  · cases e; exact ⟨_, _, ru.int, rv.int, h _ F H (.refl s) (.int _)⟩
  · cases e
def rMulA (K : PySem.W.Frag) : R2 := fun x y H Q => (rI CMulW fun i j => .int (i * j)) x y H Q ∨ rRep x y H Q ∨ rRepT K x y H Q ∨ rRepT1 K x y H Q
theorem op_mulA : OpR X (binaryOp .Mult) (rMulA X.K) := op_mulW.or (op_rep.or (op_repT.or op_repT1))
theorem d_mul : OpD K (rMulA K) mulD := fun F H u v x y z Q s ru rv e h => by
  unfold mulD at e
  split at e
  · split at e
    · rename_i c
      cases e
      exact .inl ⟨_, _, ru.int, rv.int, c, h _ F H (.refl s) (.int _)⟩
    · cases e
  · rename_i k0
    split at e
    · rename_i c
      cases e
      simp only [Bool.and_eq_true, decide_eq_true_eq] at c
      obtain ⟨a, vs, rfl, h1, d1⟩ := ru.list s
      refine .inr (.inl ⟨a, _, vs, rfl, rv.int, h1, c.1.1, c.1.2, by rw [d1.length]; exact c.2, fun p hp => ?_⟩)
      have g := Grow.new (o := .lst (List.replicate (Int.toNat k0) vs).flatten) s hp
      exact h _ _ _ g (.lst upd_same (DqAll.mono g.ff _ _ (d1.rep _)))
    · cases e
  · rename_i k0
    split at e
    · rename_i c
      cases e
      simp only [Bool.and_eq_true, decide_eq_true_eq] at c
      obtain ⟨c, cs⟩ := c
      obtain ⟨a, vs, rfl, h1, d1⟩ := ru.tuple s
      by_cases k2 : 2 ≤ k0
      · refine .inr (.inr (.inl ⟨a, _, vs, rfl, rv.int, h1, fun e => c.1.1.1 (d1.nil_iff.mp e), k2, c.1.2, by rw [d1.length]; exact c.2, fun p hp => ?_⟩))
        have g := Grow.new (o := .tup (List.replicate (Int.toNat k0) vs).flatten) s hp
        exact h _ _ _ g (.tup (SqT.of upd_same) (DqAll.mono g.ff _ _ (d1.rep _)) fun hs => absurd hs (by rw [sumlike_rep c.1.1.1 (by omega)]; simpa using cs))
      · have e1 : k0 = 1 := by omega
        subst e1
        rcases ru with q | ⟨_, _, _, _, eq, _⟩ | ⟨_, _, _, eq, _⟩
        · refine .inr (.inr (.inr ⟨a, vs, rfl, rv.int, h1, h _ F H (.refl s) ?_⟩))
          simpa using q
        · cases eq
        · cases eq
    · cases e
  · cases e
theorem d_div : OpD K (rI CDivW fun i j => .int (i / j)) divD := d_int2 (gi := fun i j => i / j) fun x y z e => by
  unfold divD at e
  split at e
  · split at e
    · rename_i c
      cases e
      simp only [Bool.and_eq_true, decide_eq_true_eq] at c
      exact ⟨_, _, rfl, rfl, c, rfl⟩
    · cases e
  · cases e
theorem d_mod : OpD K (rI (fun _ j => 0 < j) fun i j => .int (i % j)) modD := d_int2 (gi := fun i j => i % j) fun x y z e => by
  unfold modD at e
  split at e
  · split at e
    · rename_i c
      cases e
      exact ⟨_, _, rfl, rfl, c, rfl⟩
    · cases e
  · cases e
theorem d_pow : OpD K (rI CPow fun i j => .int (i ^ j.toNat)) powD := d_int2 (gi := fun i j => i ^ j.toNat) fun x y z e => by
  unfold powD at e
  split at e
  · split at e
    · rename_i c
      cases e
      simp only [Bool.and_eq_true, decide_eq_true_eq] at c
      exact ⟨_, _, rfl, rfl, ⟨c.1.1, c.1.2, c.2⟩, rfl⟩
    · cases e
  · cases e
theorem d_neg : UnD K (rU fun i => .int (-i)) negD := fun F H u x z Q s ru e h => by
  unfold negD at e
  split at e
  · cases e; exact ⟨_, ru.int, h _ F H (.refl s) (.int _)⟩
  · cases e

/-! ### comparisons -/
def eqD (x y : PyData) : Option PyData := if SeqAt.shaped x && SeqAt.shaped y then some (.bool (PyData.eqv x y)) else none
def neD (x y : PyData) : Option PyData := if SeqAt.shaped x && SeqAt.shaped y then some (.bool (!PyData.eqv x y)) else none
def cmpI (p : Int → Int → Bool) : PyData → PyData → Option PyData
  | .int i, .int j => some (.bool (p i j))
  | _, _ => none
def isNo : PyData → Bool
  | .none => true
  | _ => false
def isN : PyData → PyData → Option PyData
  | .none, .none => some (.bool true)
  | .bool _, .none | .int _, .none | .str _, .none | .list _, .none | .tuple _, .none | .dict _, .none => some (.bool false)
  | .bool a, .bool b => some (.bool (decide (a = b)))
  | _, _ => none
def notN (x y : PyData) : Option PyData := match isN x y with
  | some (.bool b) => some (.bool !b)
  | _ => none
def inD (x : PyData) : PyData → Option PyData
  | .list ds => if SeqAt.shaped x && SeqAt.shaped (.list ds) then some (.bool (ds.any fun z => PyData.eqv z x)) else none
  | .tuple ds => if SeqAt.shaped x && SeqAt.shaped (.tuple ds) then some (.bool (ds.any fun z => PyData.eqv z x)) else none
  | _ => none
def notInD (x y : PyData) : Option PyData := match inD x y with
  | some (.bool b) => some (.bool !b)
  | _ => none
theorem lay_of {d : PyData} (h : SeqAt.shaped d = true) : d.canLay0 = true := SeqAt.canLay_of_shaped h
theorem d_eq : OpD K (rEqD K) eqD := fun F H u v x y z Q s ru rv e h => by
  unfold eqD at e
  split at e
  · rename_i c
    cases e
    obtain ⟨c1, c2⟩ := Bool.and_eq_true_iff.mp c
    exact ⟨x, y, (ru.dp s).dp (lay_of c1), (rv.dp s).dp (lay_of c2), c1, c2, h _ F H (.refl s) (.bl _)⟩
  · cases e
theorem d_ne : OpD K (rNeD K) neD := fun F H u v x y z Q s ru rv e h => by
  unfold neD at e
  split at e
  · rename_i c
    cases e
    obtain ⟨c1, c2⟩ := Bool.and_eq_true_iff.mp c
    exact ⟨x, y, (ru.dp s).dp (lay_of c1), (rv.dp s).dp (lay_of c2), c1, c2, h _ F H (.refl s) (.bl _)⟩
  · cases e
theorem d_cmp {p : Int → Int → Bool} : OpD K (rI0 fun i j => .bl (p i j)) (cmpI p) := fun F H u v x y z Q s ru rv e h => by
  unfold cmpI at e
  split at e
  · cases e; exact ⟨_, _, ru.int, rv.int, h _ F H (.refl s) (.bl _)⟩
  · cases e
def rIsA : R2 := fun x y H Q => (y = .non ∧ Q (.bl (decide (x = .non))) H) ∨ rIsB x y H Q
def rNotA : R2 := fun x y H Q => (y = .non ∧ Q (.bl (!decide (x = .non))) H) ∨ rNotB x y H Q
theorem op_isA : OpR X (compareOp .Is) rIsA := op_isN.or op_isBl
theorem op_notA : OpR X (compareOp .IsNot) rNotA := op_notN.or op_notBl
theorem RD.ne_non {F H : Hp} {v : V} {x : PyData} (r : RD K F H v x) (e : x ≠ .none) : v ≠ .non := by
  rintro rfl
  rcases r with r | ⟨_, _, _, q, _⟩ | ⟨_, _, q, _⟩
  · cases r; exact e rfl
  · cases q
  · cases q
theorem isN_cases {x y z : PyData} (e : isN x y = some z) : (y = .none ∧ z = .bool (isNo x)) ∨ ∃ a b, x = .bool a ∧ y = .bool b ∧ z = .bool (decide (a = b)) := by
  cases y with
  | none => cases x <;> simp [isN] at e <;> subst e <;> exact .inl ⟨rfl, rfl⟩
  | bool b => cases x <;> simp [isN] at e <;> subst e <;> exact .inr ⟨_, _, rfl, rfl, rfl⟩
  | _ => cases x <;> simp [isN] at e
theorem d_is : OpD K rIsA isN := fun F H u v x y z Q s ru rv e h => by
  rcases isN_cases e with ⟨rfl, rfl⟩ | ⟨a, b, rfl, rfl, rfl⟩
  · refine .inl ⟨rv.non, ?_⟩
    cases x with
    | none => rw [ru.non]; exact h _ F H (.refl s) (.bl _)
    | _ => rw [decide_eq_false (ru.ne_non (by intro q; cases q))]; exact h _ F H (.refl s) (.bl _)
  · exact .inr ⟨a, b, ru.bl, rv.bl, h _ F H (.refl s) (.bl _)⟩
theorem d_isnot : OpD K rNotA notN := fun F H u v x y z Q s ru rv e h => by
  unfold notN at e
  split at e
  · rename_i b eb
    cases e
    rcases isN_cases eb with ⟨rfl, q⟩ | ⟨a, c, rfl, rfl, q⟩
    · refine .inl ⟨rv.non, ?_⟩
      cases q
      cases x with
      | none => rw [ru.non]; exact h _ F H (.refl s) (.bl _)
      | _ => rw [decide_eq_false (ru.ne_non (by intro q; cases q))]; exact h _ F H (.refl s) (.bl _)
    · cases q
      exact .inr ⟨a, c, ru.bl, rv.bl, h _ F H (.refl s) (.bl _)⟩
  · cases e
def rInA (K : PySem.W.Frag) : R2 := fun x y H Q => ∃ d ds, (Dp K H y (.list ds) ∧ SeqAt.shaped (.list ds) = true ∨ Dp K H y (.tuple ds) ∧ SeqAt.shaped (.tuple ds) = true) ∧ Dp K H x d ∧ SeqAt.shaped d = true ∧ Q (.bl (ds.any fun z => PyData.eqv z d)) H
def rNotInA (K : PySem.W.Frag) : R2 := fun x y H Q => ∃ d ds, (Dp K H y (.list ds) ∧ SeqAt.shaped (.list ds) = true ∨ Dp K H y (.tuple ds) ∧ SeqAt.shaped (.tuple ds) = true) ∧ Dp K H x d ∧ SeqAt.shaped d = true ∧ Q (.bl (!ds.any fun z => PyData.eqv z d)) H
theorem op_inA (hu : X.A.units + 65 < cLine) : OpR X (compareOp .In) (rInA X.K) := by
  intro pins s σ H x y v u Q I rx ry h
  obtain ⟨d, ds, hy, hd, sd, q⟩ := h
  obtain ⟨as, r1⟩ := Dp.reads I d x v hd rx
  rcases hy with ⟨he, se⟩ | ⟨he, se⟩
  · obtain ⟨bs, r2⟩ := Dp.reads I (.list ds) y u he ry
    exact SeqAt.in_list_reads r2 r1 (SeqAt.canLay_of_shaped se) (SeqAt.canLay_of_shaped sd) (room_in_shaped sd hu) ⟨.bl _, H, I, rfl, q⟩
  · obtain ⟨bs, r2⟩ := Dp.reads I (.tuple ds) y u he ry
    exact SeqAt.in_tuple_reads r2 r1 (SeqAt.canLay_of_shaped se) (SeqAt.canLay_of_shaped sd) (room_in_shaped sd hu) ⟨.bl _, H, I, rfl, q⟩
theorem op_notInA (hu : X.A.units + 65 < cLine) : OpR X (compareOp .NotIn) (rNotInA X.K) := by
  intro pins s σ H x y v u Q I rx ry h
  obtain ⟨d, ds, hy, hd, sd, q⟩ := h
  obtain ⟨as, r1⟩ := Dp.reads I d x v hd rx
  rcases hy with ⟨he, se⟩ | ⟨he, se⟩
  · obtain ⟨bs, r2⟩ := Dp.reads I (.list ds) y u he ry
    exact SeqAt.notIn_list_reads r2 r1 (SeqAt.canLay_of_shaped se) (SeqAt.canLay_of_shaped sd) (room_in_shaped sd hu) ⟨.bl _, H, I, rfl, q⟩
  · obtain ⟨bs, r2⟩ := Dp.reads I (.tuple ds) y u he ry
    exact SeqAt.notIn_tuple_reads r2 r1 (SeqAt.canLay_of_shaped se) (SeqAt.canLay_of_shaped sd) (room_in_shaped sd hu) ⟨.bl _, H, I, rfl, q⟩
theorem inD_cases {x y z : PyData} (e : inD x y = some z) : ∃ ds, (y = .list ds ∧ SeqAt.shaped (.list ds) = true ∨ y = .tuple ds ∧ SeqAt.shaped (.tuple ds) = true) ∧ SeqAt.shaped x = true ∧ z = .bool (ds.any fun z => PyData.eqv z x) := by
  unfold inD at e
  split at e
  · split at e
    · rename_i c
      cases e
      obtain ⟨c1, c2⟩ := Bool.and_eq_true_iff.mp c
      exact ⟨_, .inl ⟨rfl, c2⟩, c1, rfl⟩
    · cases e
  · split at e
    · rename_i c
      cases e
      obtain ⟨c1, c2⟩ := Bool.and_eq_true_iff.mp c
      exact ⟨_, .inr ⟨rfl, c2⟩, c1, rfl⟩
    · cases e
  · cases e
theorem d_in : OpD K (rInA K) inD := fun F H u v x y z Q s ru rv e h => by
  obtain ⟨ds, hy, c, rfl⟩ := inD_cases e
  refine ⟨x, ds, ?_, (ru.dp s).dp (lay_of c), c, h _ F H (.refl s) (.bl _)⟩
  rcases hy with ⟨rfl, c2⟩ | ⟨rfl, c2⟩
  · exact .inl ⟨(rv.dp s).dp (lay_of c2), c2⟩
  · exact .inr ⟨(rv.dp s).dp (lay_of c2), c2⟩
theorem d_notin : OpD K (rNotInA K) notInD := fun F H u v x y z Q s ru rv e h => by
  unfold notInD at e
  split at e
  · rename_i b eb
    cases e
    obtain ⟨ds, hy, c, q⟩ := inD_cases eb
    cases q
    refine ⟨x, ds, ?_, (ru.dp s).dp (lay_of c), c, h _ F H (.refl s) (.bl _)⟩
    rcases hy with ⟨rfl, c2⟩ | ⟨rfl, c2⟩
    · exact .inl ⟨(rv.dp s).dp (lay_of c2), c2⟩
    · exact .inr ⟨(rv.dp s).dp (lay_of c2), c2⟩
  · cases e

/-! ### built-ins -/
theorem RDs.one {F H : Hp} {us : List V} {x : PyData} (h : RDs K F H us [x]) : ∃ u, us = [u] ∧ RD K F H u x := by
  cases h with
  | cons a b => cases b; exact ⟨_, rfl, a⟩
theorem RDs.two {F H : Hp} {us : List V} {x y : PyData} (h : RDs K F H us [x, y]) : ∃ u v, us = [u, v] ∧ RD K F H u x ∧ RD K F H v y := by
  cases h with
  | cons a b =>
    cases b with
    | cons c d => cases d; exact ⟨_, _, rfl, a, c⟩
def lenD : List PyData → Option PyData
  | [.list ds] => some (.int ds.length)
  | [.tuple ds] => some (.int ds.length)
  | [.dict [(.none, .list ds)]] => some (.int ds.length)
  | [.str x] => if x.length ≤ sizeLine then some (.int x.length) else none
  | _ => none
def rLenA (K : PySem.W.Frag) : List V → Hp → VK → Prop := fun xs H Q => (∃ p ys, xs = [.ref p] ∧ (SqL K H p ys ∨ SqT K H p ys) ∧ Q (.int ys.length) H) ∨ ∃ z, xs = [.str z] ∧ z.length ≤ sizeLine ∧ Q (.int z.length) H
theorem call_lenA : CallR X (.builtin "len") (rLenA X.K) := call_len_seq.or call_len_str
theorem d_len : CaD K (rLenA K) lenD := fun F H us xs z Q s r e h => by
  unfold lenD at e
  split at e
  · cases e
    obtain ⟨u, rfl, ru⟩ := r.one
    obtain ⟨a, vs, rfl, h1, d1⟩ := ru.list s
    exact .inl ⟨a, vs, rfl, .inl (SqL.of h1), by rw [d1.length]; exact h _ F H (.refl s) (.int _)⟩
  · cases e
    obtain ⟨u, rfl, ru⟩ := r.one
    obtain ⟨a, vs, rfl, h1, d1⟩ := ru.tuple s
    exact .inl ⟨a, vs, rfl, .inr h1, by rw [d1.length]; exact h _ F H (.refl s) (.int _)⟩
  · cases e
    obtain ⟨u, rfl, ru⟩ := r.one
    obtain ⟨a, vs, rfl, h1, d1⟩ := ru.scr s
    exact .inl ⟨a, vs, rfl, .inl h1, by rw [d1.length]; exact h _ F H (.refl s) (.int _)⟩
  · split at e
    · rename_i hl
      cases e
      obtain ⟨u, rfl, ru⟩ := r.one
      obtain rfl := ru.str
      exact .inr ⟨_, rfl, hl, h _ F H (.refl s) (.int _)⟩
    · cases e
  · cases e
def absD : List PyData → Option PyData
  | [.int i] => some (.int (if i < 0 then -i else i))
  | _ => none
theorem d_abs : CaD K (fun xs H Q => ∃ i, xs = [.int i] ∧ Q (.int (if i < 0 then -i else i)) H) absD := fun F H us xs z Q s r e h => by
  unfold absD at e
  split at e
  · cases e
    obtain ⟨u, rfl, ru⟩ := r.one
    exact ⟨_, by rw [ru.int], h _ F H (.refl s) (.int _)⟩
  · cases e
def maxD2 : List PyData → Option PyData
  | [.int i, .int j] => some (.int (if j > i then j else i))
  | _ => none
def minD2 : List PyData → Option PyData
  | [.int i, .int j] => some (.int (if j < i then j else i))
  | _ => none
theorem d_max2 : CaD K (fun xs H Q => ∃ i j, xs = [.int i, .int j] ∧ Q (.int (if j > i then j else i)) H) maxD2 := fun F H us xs z Q s r e h => by
  unfold maxD2 at e
  split at e
  · cases e
    obtain ⟨u, v, rfl, ru, rv⟩ := r.two
    exact ⟨_, _, by rw [ru.int, rv.int], h _ F H (.refl s) (.int _)⟩
  · cases e
theorem d_min2 : CaD K (fun xs H Q => ∃ i j, xs = [.int i, .int j] ∧ Q (.int (if j < i then j else i)) H) minD2 := fun F H us xs z Q s r e h => by
  unfold minD2 at e
  split at e
  · cases e
    obtain ⟨u, v, rfl, ru, rv⟩ := r.two
    exact ⟨_, _, by rw [ru.int, rv.int], h _ F H (.refl s) (.int _)⟩
  · cases e
def intD : List PyData → Option PyData
  | [.int i] => some (.int i)
  | [.bool b] => some (.int (if b then 1 else 0))
  | _ => none
theorem d_int1 : CaD K (fun xs H Q => (∃ i, xs = [.int i] ∧ Q (.int i) H) ∨ ∃ k, xs = [.bl k] ∧ Q (.int (if k then 1 else 0)) H) intD := fun F H us xs z Q s r e h => by
  unfold intD at e
  split at e
  · cases e
    obtain ⟨u, rfl, ru⟩ := r.one
    exact .inl ⟨_, by rw [ru.int], h _ F H (.refl s) (.int _)⟩
  · cases e
    obtain ⟨u, rfl, ru⟩ := r.one
    exact .inr ⟨_, by rw [ru.bl], h _ F H (.refl s) (.int _)⟩
  · cases e
def tupD : List PyData → Option PyData
  | [.list ds] => some (.tuple ds)
  | [.tuple ds] => some (.tuple ds)
  | _ => none
theorem d_tuple : CaD K (fun xs H Q => ∃ p ys, xs = [.ref p] ∧ ((SqL K H p ys ∧ ∀ l its, H l = none → Q (.ref l) (upd H l (TupF its ys))) ∨ (SqT K H p ys ∧ Q (.ref p) H))) tupD := fun F H us xs z Q s r e h => by
  unfold tupD at e
  split at e
  · cases e
    obtain ⟨u, rfl, ru⟩ := r.one
    obtain ⟨a, vs, rfl, h1, d1⟩ := ru.list s
    refine ⟨a, vs, rfl, .inl ⟨SqL.of h1, fun l its hl => ?_⟩⟩
    have g := Grow.new (o := TupF its vs) s hl
    exact h _ _ _ g (.tup (SqT.ofF upd_same) (DqAll.mono g.ff _ _ d1) fun _ => .of upd_same)
  · cases e
    obtain ⟨u, rfl, ru⟩ := r.one
    obtain ⟨a, vs, rfl, h1, d1⟩ := ru.tuple s
    refine ⟨a, vs, rfl, .inr ⟨h1, ?_⟩⟩
    rcases ru with q | ⟨_, _, _, _, e, _⟩ | ⟨_, _, _, e, _⟩
    · exact h _ F H (.refl s) q
    · cases e
    · cases e
  · cases e
def bools : List PyData → Option (List Bool)
  | [] => some []
  | .bool b :: r => (bools r).map (b :: ·)
  | _ => none
theorem bools_eq : ∀ {xs : List PyData} {bs : List Bool}, bools xs = some bs → xs = bs.map .bool
  | [], bs, e => by simp [bools] at e; subst e; rfl
  | .bool b :: r, bs, e => by
    simp only [bools, Option.map_eq_some_iff] at e
    obtain ⟨cs, e1, rfl⟩ := e
    rw [bools_eq e1] <;> rfl
  | .none :: _, _, e | .int _ :: _, _, e | .str _ :: _, _, e | .list _ :: _, _, e | .tuple _ :: _, _, e | .dict _ :: _, _, e => by simp [bools] at e
def intsOf : List PyData → Option (List Int)
  | [] => some []
  | .int b :: r => (intsOf r).map (b :: ·)
  | _ => none
theorem intsOf_eq : ∀ {xs : List PyData} {bs : List Int}, intsOf xs = some bs → xs = bs.map .int
  | [], bs, e => by simp [intsOf] at e; subst e; rfl
  | .int b :: r, bs, e => by
    simp only [intsOf, Option.map_eq_some_iff] at e
    obtain ⟨cs, e1, rfl⟩ := e
    rw [intsOf_eq e1] <;> rfl
  | .none :: _, _, e | .bool _ :: _, _, e | .str _ :: _, _, e | .list _ :: _, _, e | .tuple _ :: _, _, e | .dict _ :: _, _, e => by simp [intsOf] at e
def allBD : List PyData → Option PyData
  | [.list ds] => (bools ds).map fun bs => .bool (bs.all id)
  | _ => none
def anyBD : List PyData → Option PyData
  | [.list ds] => (bools ds).map fun bs => .bool (bs.any id)
  | _ => none
def sumD : List PyData → Option PyData
  | [.list ds] => (intsOf ds).map fun bs => .int bs.sum
  | _ => none
theorem d_all : CaD K (rAll K) allBD := fun F H us xs z Q s r e h => by
  unfold allBD at e
  split at e
  · simp only [Option.map_eq_some_iff] at e
    obtain ⟨bs, e1, rfl⟩ := e
    obtain ⟨u, rfl, ru⟩ := r.one
    rw [bools_eq e1] at ru
    obtain ⟨a, vs, rfl, h1, d1⟩ := ru.list s
    rw [d1.bls] at h1
    exact ⟨a, bs, rfl, SqL.of h1, h _ F H (.refl s) (.bl _)⟩
  · cases e
theorem d_any : CaD K (rAny K) anyBD := fun F H us xs z Q s r e h => by
  unfold anyBD at e
  split at e
  · simp only [Option.map_eq_some_iff] at e
    obtain ⟨bs, e1, rfl⟩ := e
    obtain ⟨u, rfl, ru⟩ := r.one
    rw [bools_eq e1] at ru
    obtain ⟨a, vs, rfl, h1, d1⟩ := ru.list s
    rw [d1.bls] at h1
    exact ⟨a, bs, rfl, SqL.of h1, h _ F H (.refl s) (.bl _)⟩
  · cases e
theorem d_sum : CaD K (rSum K) sumD := fun F H us xs z Q s r e h => by
  unfold sumD at e
  split at e
  · simp only [Option.map_eq_some_iff] at e
    obtain ⟨bs, e1, rfl⟩ := e
    obtain ⟨u, rfl, ru⟩ := r.one
    rw [intsOf_eq e1] at ru
    obtain ⟨a, vs, rfl, h1, d1⟩ := ru.list s
    rw [d1.ints] at h1
    exact ⟨a, bs, rfl, SqL.of h1, h _ F H (.refl s) (.int _)⟩
  · cases e
def strD : List PyData → Option PyData
  | [.int i] => if i.natAbs.log2 < 1920 then some (.str (toString i)) else none
  | _ => none
theorem d_str : CaD K (fun xs H Q => ∃ i, xs = [.int i] ∧ i.natAbs.log2 < 1920 ∧ Q (.str (toString i)) H) strD := fun F H us xs z Q s r e h => by
  unfold strD at e
  split at e
  · split at e
    · rename_i c
      cases e
      obtain ⟨u, rfl, ru⟩ := r.one
      exact ⟨_, by rw [ru.int], c, h _ F H (.refl s) (.str _)⟩
    · cases e
  · cases e
end
end DV
set_option Elab.async false
set_option linter.all false
set_option maxRecDepth 100000
namespace DV
open PySem PySem.Spec PyProof.Rows L2

/-! ### places -/
def optD (o : Option PyData) (S : Sto) : R Val := okD o S
def ixV (S : Sto) (x y : Val) : R Val := match y with
  | .d (.int i) => match x with
    | .d (.list ds) => okD (atI ds i) S
    | .d (.tuple ds) => okD (atI ds i) S
    | .d (.dict [(.none, .list ds)]) => okD (atI ds i) S
    | .d (.str z) => if z.length ≤ sizeLine then okD ((atI z.cps.toList i).map fun c => .str ⟨#[c]⟩) S else .bad
    | .loc k => match S[k]? with
      | some (.lst xs) => match atI xs i with
        | some v => .ok v S
        | none => .bad
      | some (.frz ds) => okD (atI ds i) S
      | some (.gh _) => .bad
      | none => .bad
    | _ => .bad
  | _ => .bad
def ixE (fa fb : DE) : DE := fun sl S => (fa sl S).bind fun x S1 => (fb sl S1).bind fun y S2 => ixV S2 x y
section
variable {K : PySem.W.Frag} {ι : Nat → Addr} {F H : Hp} {n : Nat}
theorem atI_len {α β : Type} {xs : List α} {ys : List β} (h : xs.length = ys.length) {i : Int} {y : β} (e : atI ys i = some y) : ∃ j, ixN xs.length i = some j ∧ ys[j]? = some y := by
  unfold atI at e
  cases q : ixN ys.length i with
  | none => rw [q] at e; cases e
  | some j => rw [q] at e; exact ⟨j, by rw [h]; exact q, e⟩
theorem DqAll.at {vs : List V} {ds : List PyData} (h : DqAll K F vs ds) {i : Int} {d : PyData} (e : atI ds i = some d) : ∃ v, atI vs i = some v ∧ Dq K F v d := by
  obtain ⟨j, e1, e2⟩ := atI_len h.length e
  obtain ⟨v, e3, q⟩ := h.get e2
  exact ⟨v, by unfold atI; rw [e1]; exact e3, q⟩
theorem RVs.at {vs : List V} {xs : List Val} (h : RVs K ι F n vs xs) {i : Int} {d : Val} (e : atI xs i = some d) : ∃ v, atI vs i = some v ∧ RV K ι F n v d := by
  obtain ⟨j, e1, e2⟩ := atI_len h.length e
  obtain ⟨v, e3, q⟩ := h.get e2
  exact ⟨v, by unfold atI; rw [e1]; exact e3, q⟩
theorem okD_ok {mg : Str → Option Value} {W : WX} {σ : CxSt} {o : Option PyData} {S : Sto} {P : Val → Sto → (Nat → Addr) → Hp → Hp → Prop} (h : Aft K mg W σ ι F H S.length (okD o S) P) (rel : Rel K ι F H S) : ∃ z, o = some z ∧ P (.d z) S ι F H := by
  cases o with
  | none => exact h.elim
  | some z => exact ⟨z, rfl, h ι F H .refl rel⟩
theorem ixV_ok {mg : Str → Option Value} {W : WX} {σ : CxSt} {S : Sto} {x y : Val} {u v : V} {Q : VK} (rel : Rel K ι F H S)
    (ru : RV K ι F S.length u x) (rv : RV K ι F S.length v y) (h : Aft K mg W σ ι F H S.length (ixV S x y) fun x S' ι' F' H' => ∀ u, RV K ι' F' S'.length u x → Q u H') : rIx K u v H Q := by
  unfold ixV at h
  split at h
  · rename_i i
    cases rv
    split at h
    · rename_i ds
      obtain ⟨z, e, k⟩ := okD_ok h rel
      cases ru with
      | lst q r =>
        obtain ⟨w, e1, d1⟩ := r.at e
        exact .inl ⟨_, _, i, w, rfl, rfl, SqL.of (rel.sub _ _ q), e1, k w d1⟩
    · rename_i ds
      obtain ⟨z, e, k⟩ := okD_ok h rel
      cases ru with
      | tup q r _ =>
        obtain ⟨w, e1, d1⟩ := r.at e
        exact .inr (.inl ⟨_, _, i, w, rfl, rfl, SqT.mono rel.sub q, e1, k w d1⟩)
    · rename_i ds
      obtain ⟨z, e, k⟩ := okD_ok h rel
      obtain ⟨a, vs, rfl, q, r⟩ := RD.scr rel.sub (.inl ru)
      obtain ⟨w, e1, d1⟩ := r.at e
      exact .inl ⟨_, _, i, w, rfl, rfl, q, e1, k w d1⟩
    · split at h
      · rename_i z hl
        obtain ⟨z', e, k⟩ := okD_ok h rel
        simp only [Option.map_eq_some_iff] at e
        obtain ⟨c, e, rfl⟩ := e
        cases ru
        exact .inr (.inr ⟨_, i, c, rfl, rfl, hl, e, k _ (.str _)⟩)
      · exact h.elim
    · rename_i k0
      obtain ⟨hk, rfl⟩ := ru
      split at h
      · rename_i xs q
        split at h
        · rename_i v' e
          obtain ⟨_, vs, h1, h2⟩ := rel.obj _ _ q
          obtain ⟨w, e1, d1⟩ := h2.at e
          exact .inl ⟨_, vs, i, w, rfl, rfl, SqL.of h1, e1, h ι F H .refl rel w d1⟩
        · exact h.elim
      · rename_i ds q
        obtain ⟨z, e, k⟩ := okD_ok h rel
        obtain ⟨vs, h1, h2⟩ := rel.obj _ _ q
        obtain ⟨w, e1, d1⟩ := h2.at e
        exact .inl ⟨_, vs, i, w, rfl, rfl, SqL.of (rel.sub _ _ h1), e1, k w d1⟩
      · exact h.elim
      · exact h.elim
    · exact h.elim
  · exact h.elim
end
section
variable {X : Cx} {W : WX} {a b c e : Expr} {es : List Expr} {fa fb fc f : DE} {la : DL} {pos p p2 : Pos}
theorem q_ix (ha : QE X W a fa) (hb : QE X W b fb) (hs : PlainIx b) : QE X W (.Subscript a b pos) (ixE fa fb) := by
  refine PE.imp (pe_ix ix_seq ha hb hs) fun σ H Q ⟨ι, F, S, sl, hz, hs, rel, q⟩ => ?_
  exact tE.two hz hs rel q fun x y S2 ι2 F2 H2 u v s2 r2 ru rv h2 => ixV_ok r2 ru rv h2

/-! ### slices -/
abbrev DO := Sl → Sto → R (Option Int)
def tOo (K : PySem.W.Frag) (mg : Str → Option Value) (W : WX) (f : DO) : TO := fun σ H Q => ∃ ι F S sl, sl.length ≤ σ.length ∧ SlR K ι F S.length σ sl ∧ Rel K ι F H S ∧
  Aft K mg W σ ι F H S.length (f sl S) fun b S' ι' F' H' => Q b H'
def QO (X : Cx) (W : WX) (e : Option Expr) (f : DO) : Prop := PO X e (tOo X.K X.mg W f)
def noO : DO := fun _ S => .ok none S
def someO (f : DE) : DO := fun sl S => (f sl S).bind fun x S1 => match x with
  | .d (.int i) => .ok (some i) S1
  | _ => .bad
theorem o_none : QO X W none noO := ⟨fun pins s σ H Q vI h => po_none.run pins s σ H Q vI (by
  obtain ⟨ι, F, S, sl, hz, hs, rel, q⟩ := h
  exact q ι F H .refl rel)⟩
theorem o_some (h : QE X W e f) : QO X W (some e) (someO f) := ⟨fun pins s σ H Q vI hh => (po_some h).run pins s σ H Q vI (by
  obtain ⟨ι, F, S, sl, hz, hs, rel, q⟩ := hh
  refine ⟨ι, F, S, sl, hz, hs, rel, Aft.imp (Aft.bind q) fun x S1 ι1 F1 H1 ⟨s1, r1, h1⟩ u ru => ?_⟩
  split at h1
  · cases ru
    exact ⟨_, rfl, h1 ι1 F1 H1 .refl r1⟩
  · exact h1.elim)⟩
def cutD (xs : List PyData) (lo hi : Option Int) : List PyData := (xs.drop (HT.sIx xs.length 0 lo)).take (HT.sIx xs.length xs.length hi - HT.sIx xs.length 0 lo)
def cutX {α : Type} (xs : List α) (lo hi : Option Int) : List α := (xs.drop (HT.sIx xs.length 0 lo)).take (HT.sIx xs.length xs.length hi - HT.sIx xs.length 0 lo)
def slV (S : Sto) (x : Val) (lo hi : Option Int) : R Val := match dat S x with
  | some (.list ds) => .ok (.d (.list (cutX ds lo hi))) S
  | some (.tuple ds) => .ok (.d (.tuple (cutX ds lo hi))) S
  | _ => .bad
def slE (fa : DE) (fl fh : DO) : DE := fun sl S => (fa sl S).bind fun x S1 => (fl sl S1).bind fun lo S2 => (fh sl S2).bind fun hi S3 => slV S3 x lo hi
def rSlB (K : PySem.W.Frag) : V → Option Int → Option Int → Hp → VK → Prop := fun x lo hi H Q => rSlL K x lo hi H Q ∨ rSlF K x lo hi H Q
theorem sl_both : L2.SlR X (rSlB X.K) := sl_list.or sl_tupF
theorem DqAll.cut {K : PySem.W.Frag} {F : Hp} {vs : List V} {ds : List PyData} (h : DqAll K F vs ds) (lo hi : Option Int) : DqAll K F (cutV vs lo hi) (cutX ds lo hi) := by
  unfold cutV cutX
  rw [h.length]
  exact DqAll.take _ (DqAll.drop _ h)
theorem q_sl {lo hi : Option Expr} {fl fh : DO} (ha : QE X W a fa) (hl : QO X W lo fl) (hh : QO X W hi fh) : QE X W (.Subscript a (.Slice lo hi none p2) pos) (slE fa fl fh) := by
  refine PE.imp (pe_slice sl_both ha hl hh) fun σ H Q ⟨ι, F, S, sl, hz, hs, rel, q⟩ => ?_
  refine ⟨ι, F, S, sl, hz, hs, rel, Aft.imp (Aft.bind q) fun x S1 ι1 F1 H1 ⟨s1, r1, h1⟩ u ru => ?_⟩
  refine ⟨ι1, F1, S1, sl, hz, hs.stp s1, r1, Aft.imp h1.bind fun l S2 ι2 F2 H2 ⟨s2, r2, h2⟩ => ?_⟩
  refine ⟨ι2, F2, S2, sl, hz, (hs.stp s1).stp s2, r2, Aft.imp h2.bind fun hh S3 ι3 F3 H3 ⟨s3, r3, h3⟩ => ?_⟩
  have ru3 := (ru.stp s2).stp s3
  unfold slV at h3
  split at h3
  · rename_i ds ed
    obtain ⟨a, vs, rfl, q1, d1⟩ := (ru3.dat r3 ed).list r3.sub
    refine .inl ⟨a, vs, rfl, SqL.of q1, fun p hp => ?_⟩
    have g := Grow.new (o := .lst (cutV vs l hh)) r3.sub hp
    exact h3 ι3 _ _ g.stp (r3.grow g) _ (.lst upd_same (DqAll.mono g.ff _ _ (d1.cut l hh)))
  · rename_i ds ed
    have rt := ru3.dat r3 ed
    obtain ⟨a, vs, rfl, q1, d1⟩ := rt.tuple r3.sub
    refine .inr ⟨a, vs, rfl, q1, fun ⟨w1, w2⟩ => ?_, fun _ p its hp => ?_⟩
    · have e : cutX ds l hh = ds := by
        unfold cutX
        rw [← d1.length, w1, w2, d1.length]
        simp
      rw [e] at h3
      rcases rt with q | ⟨_, _, _, _, e, _⟩ | ⟨_, _, _, e, _⟩
      · exact h3 ι3 F3 H3 .refl r3 _ q
      · cases e
      · cases e
    · have g := Grow.new (o := TupF its (cutV vs l hh)) r3.sub hp
      exact h3 ι3 _ _ g.stp (r3.grow g) _ (.tup (SqT.ofF upd_same) (DqAll.mono g.ff _ _ (d1.cut l hh)) fun _ => .of upd_same)
  · exact h3.elim

/-! ### isinstance -/
def tyNm : PyData → String
  | .none => "NoneType"
  | .bool _ => "bool"
  | .int _ => "int"
  | .str _ => "str"
  | .list _ => "list"
  | .tuple _ => "tuple"
  | .dict [(.none, .list _)] => "list"
  | .dict _ => "dict"
theorem SqT.ty {K : PySem.W.Frag} {H : Hp} {a : Addr} {xs : List V} (h : SqT K H a xs) : TyX K H (.ref a) (.type "tuple") := by
  rcases h with (h | ⟨o, h⟩) | ⟨o, its, n, h, c, _⟩
  · exact .base (.tup h)
  · exact .fTuple h
  · exact .kTuple h c
theorem SqL.ty {K : PySem.W.Frag} {H : Hp} {a : Addr} {xs : List V} (h : SqL K H a xs) : TyX K H (.ref a) (.type "list") := by
  rcases h with (h | ⟨o, h⟩) | ⟨o, its, n, h, c, _⟩
  · exact .base (.lst h)
  · exact .base (.frz h)
  · exact .kList h c
theorem RD.ty {K : PySem.W.Frag} {F H : Hp} {u : V} {x : PyData} (s : Same F H) (r : RD K F H u x) (nx : isDn x = false) : TyX K H u (.type (tyNm x)) := by
  rcases r with r | ⟨a, vs, ds, rfl, rfl, h1, h2⟩ | ⟨a, kvs, rfl, rfl, h1⟩
  · cases r with
    | non => exact .base .non
    | bl b => exact .base (.bl b)
    | int i => exact .base (.int i)
    | str z => exact .base (.str z)
    | lst q _ => exact .base (.lst (s _ _ q))
    | tup q _ _ => exact SqT.ty (SqT.mono s q)
    | scr q _ => exact SqL.ty (s.seq q)
    | @dk a ks vs kvs q l e d =>
      have : tyNm (.dict kvs) = "dict" := by
        unfold tyNm
        split <;> first | rfl | skip
        all_goals (rename_i he; cases he)
        cases ks with
        | nil => simp at e
        | cons k ks => cases k <;> simp [keyD] at e
      rw [this]
      exact .base (.dK (s _ _ q))
    | @dt a ks vs kvs q l e d =>
      have : tyNm (.dict kvs) = "dict" := by
        unfold tyNm
        split <;> first | rfl | skip
        all_goals (rename_i he; cases he)
        cases ks with
        | nil => simp at e
        | cons k ks => simp at e
      rw [this]
      exact .base (.dT (s _ _ q))
    | dn _ _ _ _ _ _ _ _ _ => cases nx
  · exact .base (.lst h1)
  · cases nx
def isiD (c : String) (x : PyData) : Option PyData := if isDn x then none else (kitB (tyNm x) c).map .bool
def isiE (c : String) (fa : DE) : DE := un (isiD c) fa
theorem q_isi {c : String} {r : TE} (h : PE X e (tCB (rIsi X.K) (tCons (tE X.K X.mg W fa) (tCons (tC (.ty c)) tNil)))) : QE X W e (isiE c fa) := by
  refine PE.imp h fun σ H Q q => ?_
  have hr : UnD X.K (fun u H Q => rIsi X.K [u, .ty c] H Q) (isiD c) := fun F H u x z Q s ru e k => by
    unfold isiD at e
    cases nx : isDn x with
    | true => rw [nx] at e; cases e
    | false =>
      rw [nx, if_neg Bool.false_ne_true] at e
      simp only [Option.map_eq_some_iff] at e
      obtain ⟨b, e1, rfl⟩ := e
      exact ⟨u, .ty c, _, _, b, rfl, .ty c, ru.ty s nx, kit_ty e1, k _ F H (.refl s) (.bl _)⟩
  exact un_ok hr q
/-- isinstance(x, (A, B)) of built-in classes -/
def isiD2 (c c2 : String) (x : PyData) : Option PyData := if isDn x then none else match kitB (tyNm x) c with
  | some true => some (.bool true)
  | some false => (kitB (tyNm x) c2).map .bool
  | none => none
theorem q_isi2 {c c2 : String} (h : PE X e (tCB (rIsiT X.K) (tCons (tE X.K X.mg W fa) (tCons (tTup (tCons (tC (.ty c)) (tCons (tC (.ty c2)) tNil))) tNil)))) : QE X W e (un (isiD2 c c2) fa) := by
  refine PE.imp h fun σ H Q q => ?_
  have hr : UnD X.K (fun u H Q => ∀ p, H p = none → rIsiT X.K [u, .ref p] (upd H p (.tup [.ty c, .ty c2])) Q) (isiD2 c c2) := fun F H u x z Q s ru e k p hp => by
    have g := Grow.new (o := .tup [.ty c, .ty c2]) s hp
    have ru' : RD X.K (upd F p (.tup [.ty c, .ty c2])) (upd H p (.tup [.ty c, .ty c2])) u x := by
      rcases ru with q | ⟨a, vs, ds, e1, e2, h1, h2⟩ | ⟨a, kvs, e1, e2, es, ep, xs, vs, h1⟩
      · exact .inl (Dq.mono g.ff _ _ q)
      · exact .inr (.inl ⟨a, vs, ds, e1, e2, g.hh _ _ h1, DqAll.mono g.ff _ _ h2⟩)
      · exact .inr (.inr ⟨a, kvs, e1, e2, es, ep, xs, vs, h1.ext g.ff ((g.hh _ _ h1.at_).trans h1.at_.symm)⟩)
    unfold isiD2 at e
    have nx : isDn x = false := by
      cases nx : isDn x with
      | true => rw [nx] at e; cases e
      | false => rfl
    rw [nx, if_neg Bool.false_ne_true] at e
    refine ⟨u, p, [.ty c, .ty c2], .type (tyNm x), [.type c, .type c2], ?_⟩
    split at e
    · rename_i e1
      cases e
      exact ⟨true, rfl, upd_same, .cons (.ty c) (.cons (.ty c2) .nil), ru'.ty g.sub nx, kitAny_cons (kit_ty e1) (fun q => nomatch q) (fun _ => rfl), k _ _ _ g (.bl _)⟩
    · rename_i e1
      simp only [Option.map_eq_some_iff] at e
      obtain ⟨b, e2, rfl⟩ := e
      exact ⟨b, rfl, upd_same, .cons (.ty c) (.cons (.ty c2) .nil), ru'.ty g.sub nx, kitAny_cons (kit_ty e1) (fun _ => kitAny_cons (kit_ty e2) (fun q => by rw [q]; exact kitAny_nil) (fun q => q)) (fun q => nomatch q), k _ _ _ g (.bl _)⟩
    · cases e
  obtain ⟨ι, F, S, sl, hz, hs, rel, q'⟩ := un_ok hr q
  exact ⟨ι, F, S, sl, hz, hs, rel, Aft.imp q' fun x S' ι' F' H' k u ru => ⟨by show 2 ≤ sizeLine; decide, fun p hp => k u ru p hp⟩⟩
end
end DV
set_option Elab.async false
set_option linter.all false
set_option maxRecDepth 100000
namespace DV
open PySem PySem.Spec PyProof.Rows L2

/-! ### what is walked: items that are data -/
abbrev IT := Sl → Sto → R (List PyData)
/-- an iterator that yields the items, over all that grows from F -/
structure ItOk (K : PySem.W.Frag) (F : Hp) (J : It) (xs : List PyData) : Prop where
  go : ∀ i F1 H1, i < xs.length → Same F F1 → Same F1 H1 → J.go i H1
  yld : ∀ i F1 H1 x H2, i < xs.length → Same F F1 → Same F1 H1 → J.yld i H1 x H2 → ∃ d F2, xs[i]? = some d ∧ Grow F1 H1 F2 H2 ∧ Dq K F2 x d
  stop : ∀ i F1 H1, xs.length ≤ i → Same F F1 → Same F1 H1 → J.stop i H1
def tI (K : PySem.W.Frag) (mg : Str → Option Value) (W : WX) (f : IT) : TI := fun σ H R => ∃ ι F S sl, sl.length ≤ σ.length ∧ SlR K ι F S.length σ sl ∧ Rel K ι F H S ∧
  Aft K mg W σ ι F H S.length (f sl S) fun xs S' ι' F' H' => ∀ J, ItOk K F' J xs → R J H'
def QI (X : Cx) (W : WX) (tg iter : Expr) (f : IT) : Prop := PI X tg iter (tI X.K X.mg W f)
theorem PI.imp {X : Cx} {tg e : Expr} {t t' : TI} (h : PI X tg e t) (k : ∀ σ H Q, t' σ H Q → t σ H Q) : PI X tg e t' := ⟨fun pins s σ H Q I q => h.run pins s σ H Q I (k _ _ _ q)⟩
theorem PI.or {X : Cx} {tg e : Expr} {t t' : TI} (h : PI X tg e t) (h' : PI X tg e t') : PI X tg e (fun σ H Q => t σ H Q ∨ t' σ H Q) := ⟨fun pins s σ H Q I q => q.elim (h.run pins s σ H Q I) (h'.run pins s σ H Q I)⟩
/-- a list or a tuple, given away -/
def seqI (f : DE) : IT := fun sl S => (f sl S).bind fun x S1 => match frz S1 x with
  | some (.list ds, S2) => .ok ds S2
  | some (.tuple ds, S2) => .ok ds S2
  | _ => .bad
section
variable {K : PySem.W.Frag} {F H : Hp}
theorem it_list {a : Addr} {vs : List V} {ds : List PyData} (h : F a = some (.lst vs)) (d : DqAll K F vs ds) : ItOk K F (Itl K a) ds where
  go := fun i F1 H1 hi f1 f2 => ⟨vs, vs[i]'(by rw [d.length]; exact hi), SqL.of (f2 _ _ (f1 _ _ h)), List.getElem?_eq_getElem _⟩
  yld := fun i F1 H1 x H2 hi f1 f2 ⟨e, q⟩ => by
    subst e
    have e := q vs (SqL.of (f2 _ _ (f1 _ _ h)))
    obtain ⟨v, e2, dv⟩ := d.get (List.getElem?_eq_getElem hi)
    rw [e] at e2
    cases e2
    exact ⟨_, F1, List.getElem?_eq_getElem hi, .refl f2, Dq.mono f1 _ _ dv⟩
  stop := fun i F1 H1 hi f1 f2 => ⟨vs, SqL.of (f2 _ _ (f1 _ _ h)), by rw [d.length]; exact hi⟩
theorem it_tup {a : Addr} {vs : List V} {ds : List PyData} (h : SqT K F a vs) (d : DqAll K F vs ds) : ItOk K F (Itt K a) ds where
  go := fun i F1 H1 hi f1 f2 => ⟨vs, vs[i]'(by rw [d.length]; exact hi), SqT.mono f2 (SqT.mono f1 h), List.getElem?_eq_getElem _⟩
  yld := fun i F1 H1 x H2 hi f1 f2 ⟨e, q⟩ => by
    subst e
    have e := q vs (SqT.mono f2 (SqT.mono f1 h))
    obtain ⟨v, e2, dv⟩ := d.get (List.getElem?_eq_getElem hi)
    rw [e] at e2
    cases e2
    exact ⟨_, F1, List.getElem?_eq_getElem hi, .refl f2, Dq.mono f1 _ _ dv⟩
  stop := fun i F1 H1 hi f1 f2 => ⟨vs, SqT.mono f2 (SqT.mono f1 h), by rw [d.length]; exact hi⟩
def rangeL (lo : Int) (n : Nat) : List PyData := (List.range n).map fun i => .int (lo + (i : Nat))
theorem rangeL_length (lo : Int) (n : Nat) : (rangeL lo n).length = n := by simp [rangeL]
theorem rangeL_get {lo : Int} {n i : Nat} (h : i < n) : (rangeL lo n)[i]? = some (.int (lo + (i : Nat))) := by simp [rangeL, h]
theorem it_range {lo : Int} {n : Nat} : ItOk K F (Itr lo n) (rangeL lo n) where
  go := fun i F1 H1 hi f1 f2 => by rw [rangeL_length] at hi; exact hi
  yld := fun i F1 H1 x H2 hi f1 f2 ⟨e, q⟩ => by
    subst e q
    rw [rangeL_length] at hi
    exact ⟨_, F1, rangeL_get hi, .refl f2, .int _⟩
  stop := fun i F1 H1 hi f1 f2 => by rw [rangeL_length] at hi; exact hi
end
section
variable {X : Cx} {W : WX} {a b e tg : Expr} {fa fb f : DE} {la : DL} {pos p : Pos}
theorem i_seq (h : QE X W e f) : QI X W tg e (seqI f) := by
  refine PI.imp (PI.or (pi_list h) (pi_tup h)) fun σ H Q q => ?_
  obtain ⟨ι, F, S, sl, hz, hs, rel, q⟩ := q
  unfold seqI at q
  cases ef : f sl S with
  | er x S1 =>
    rw [ef] at q
    exact .inl ⟨ι, F, S, sl, hz, hs, rel, by rw [ef]; exact q⟩
  | bad => rw [ef] at q; exact q.elim
  | ok x S1 =>
    rw [ef] at q
    simp only [R.bind] at q
    split at q
    · rename_i ds S2 e2
      refine .inl ⟨ι, F, S, sl, hz, hs, rel, ?_⟩
      rw [ef]
      intro ι1 F1 H1 s1 r1 u ru
      obtain ⟨F2, g2, d2⟩ := frz_ok e2 r1 ru
      cases d2 with
      | lst q2 dd => exact ⟨_, rfl, ⟨_, SqL.of (g2.2.2.sub _ _ q2)⟩, q ι1 F2 H1 (s1.trans g2.2.1) g2.2.2 _ (it_list q2 dd)⟩
    · rename_i ds S2 e2
      refine .inr ⟨ι, F, S, sl, hz, hs, rel, ?_⟩
      rw [ef]
      intro ι1 F1 H1 s1 r1 u ru
      obtain ⟨F2, g2, d2⟩ := frz_ok e2 r1 ru
      cases d2 with
      | tup q2 dd _ => exact ⟨_, rfl, ⟨_, SqT.mono g2.2.2.sub q2⟩, q ι1 F2 H1 (s1.trans g2.2.1) g2.2.2 _ (it_tup q2 dd)⟩
    · exact q.elim
def rng1 (la : DL) : IT := fun sl S => (la sl S).bind fun xs S1 => match xs with
  | [.d (.int j)] => if decide (-(2 ^ 62) ≤ j) && decide (j < 2 ^ 62) then .ok (rangeL 0 j.toNat) S1 else .bad
  | _ => .bad
def rng2 (la : DL) : IT := fun sl S => (la sl S).bind fun xs S1 => match xs with
  | [.d (.int i), .d (.int j)] => if decide (-(2 ^ 62) ≤ i) && decide (i < 2 ^ 62) && decide (-(2 ^ 62) ≤ j) && decide (j < 2 ^ 62) then .ok (rangeL i (j - i).toNat) S1 else .bad
  | _ => .bad
theorem RVs.nil_inv {K : PySem.W.Frag} {ι : Nat → Addr} {F : Hp} {n : Nat} {us : List V} (h : RVs K ι F n us []) : us = [] := by cases h; rfl
theorem i_rng1 (hg : Gl X "range") (hm : X.mg "range" = none) (ha : QA X W [a] la) (hs : starEach [a] X.env = [(false, eval a X.env)] := by rfl) : QI X W tg (.Call (.Name "range" p) [a] [] pos) (rng1 la) := by
  refine PI.imp (pi_range1 hg hm ha hs) fun σ H Q q => ?_
  obtain ⟨ι, F, S, sl, hz, hs, rel, q⟩ := q
  refine ⟨ι, F, S, sl, hz, hs, rel, Aft.imp (Aft.bind q) fun xs S1 ι1 F1 H1 ⟨s1, r1, h1⟩ us rus => ?_⟩
  split at h1
  · cases rus with
    | cons r rr =>
      cases RVs.nil_inv rr
      cases r
      split at h1
      · rename_i c
        simp only [Bool.and_eq_true, decide_eq_true_eq] at c
        exact ⟨_, rfl, c.1, c.2, h1 ι1 F1 H1 .refl r1 _ it_range⟩
      · exact h1.elim
  · exact h1.elim
theorem i_rng2 (hg : Gl X "range") (hm : X.mg "range" = none) (ha : QA X W [a, b] la) (hs : starEach [a, b] X.env = [(false, eval a X.env), (false, eval b X.env)] := by rfl) (hs2 : starEach [b] X.env = [(false, eval b X.env)] := by rfl) : QI X W tg (.Call (.Name "range" p) [a, b] [] pos) (rng2 la) := by
  refine PI.imp (pi_range2 hg hm ha hs hs2) fun σ H Q q => ?_
  obtain ⟨ι, F, S, sl, hz, hs, rel, q⟩ := q
  refine ⟨ι, F, S, sl, hz, hs, rel, Aft.imp (Aft.bind q) fun xs S1 ι1 F1 H1 ⟨s1, r1, h1⟩ us rus => ?_⟩
  split at h1
  · cases rus with
    | cons r rr =>
      cases rr with
      | cons r' rr =>
        cases RVs.nil_inv rr
        cases r
        cases r'
        split at h1
        · rename_i c
          simp only [Bool.and_eq_true, decide_eq_true_eq] at c
          exact ⟨_, _, rfl, ⟨c.1.1.1, c.1.1.2, c.1.2, c.2⟩, h1 ι1 F1 H1 .refl r1 _ it_range⟩
        · exact h1.elim
  · exact h1.elim
end

/-! ### targets -/
inductive Tg where
  | nm (i : Nat)
  | tp (is : List Nat)
def gNames : List Nat → TGs
  | [] => gNil
  | i :: is => gCons (gName i) (gNames is)
def Tg.g (K : PySem.W.Frag) : Tg → TG
  | .nm i => gName i
  | .tp is => gTup K is.length (gNames is)
def Tg.ix : Tg → List Nat
  | .nm i => [i]
  | .tp is => is
def setMany : List Nat → List PyData → Sl → Option Sl
  | [], [], sl => some sl
  | i :: is, d :: ds, sl => setMany is ds (sl.set i (some (.d d)))
  | _, _, _ => none
def setT (t : Tg) (d : PyData) (sl : Sl) : Option Sl := match t with
  | .nm i => some (sl.set i (some (.d d)))
  | .tp is => match d with
    | .tuple ds => setMany is ds sl
    | _ => none
section
variable {K : PySem.W.Frag} {ι : Nat → Addr} {F H : Hp} {n : Nat} {σ : CxSt} {sl sl' : Sl} {vs : List Nat}
theorem SlR.set {i : Nat} {v : V} {x : Val} (h : SlR K ι F n σ sl) (hz : sl.length ≤ σ.length) (r : RV K ι F n v x) : SlR K ι F n (σ.set i (some v)) (sl.set i (some x)) := fun j y e => by
  by_cases hj : j = i
  · subst hj
    by_cases hl : j < sl.length
    · rw [List.getElem?_set_self hl] at e
      cases e
      exact ⟨v, List.getElem?_set_self (Nat.lt_of_lt_of_le hl hz), r⟩
    · rw [List.getElem?_eq_none (by simpa using Nat.le_of_not_lt hl)] at e
      cases e
  · rw [List.getElem?_set_ne (Ne.symm hj)] at e
    obtain ⟨w, e1, r1⟩ := h j y e
    exact ⟨w, by rw [List.getElem?_set_ne (Ne.symm hj)]; exact e1, r1⟩
theorem wipe_set {i : Nat} {x : Option V} : ∀ {vs : List Nat} {σ : CxSt}, i ∈ vs → wipe (σ.set i x) vs = wipe σ vs
  | v :: vs, σ, hi => by
    unfold wipe
    by_cases e : i = v
    · subst e
      by_cases hv : i ∈ vs
      · rw [wipe_set hv]
      · have : ∀ (us : List Nat) (τ : CxSt), i ∉ us → (wipe (τ.set i x) us).set i none = (wipe τ us).set i none := by
          intro us
          induction us with
          | nil => intro τ _; simp [wipe]
          | cons u us ih =>
            intro τ hu
            simp only [List.mem_cons, not_or] at hu
            unfold wipe
            rw [List.set_comm _ _ (Ne.symm hu.1), ih τ hu.2, List.set_comm _ _ hu.1]
        exact this vs σ hv
    · rcases List.mem_cons.mp hi with h | h
      · exact absurd h e
      · rw [wipe_set h]
theorem wipe_comm (v : Nat) : ∀ (vs : List Nat) (σ : CxSt), wipe (σ.set v none) vs = (wipe σ vs).set v none
  | [], σ => rfl
  | u :: vs, σ => by
    unfold wipe
    rw [wipe_comm v vs σ]
    by_cases e : u = v
    · subst e; rfl
    · rw [List.set_comm _ _ e]
theorem wipe_wipe : ∀ (vs : List Nat) (σ : CxSt), wipe (wipe σ vs) vs = wipe σ vs
  | [], σ => rfl
  | v :: vs, σ => by
    show (wipe ((wipe σ vs).set v none) vs).set v none = (wipe σ vs).set v none
    rw [wipe_comm, wipe_wipe vs σ, List.set_set]
def wipeS (sl : Sl) : List Nat → Sl
  | [] => sl
  | v :: vs => (wipeS sl vs).set v none
theorem wipeS_length (sl : Sl) : ∀ vs, (wipeS sl vs).length = sl.length
  | [] => rfl
  | v :: vs => by unfold wipeS; rw [List.length_set, wipeS_length sl vs]
theorem SlR.wipe (h : SlR K ι F n σ sl) : ∀ vs : List Nat, SlR K ι F n (L2.wipe σ vs) (wipeS sl vs)
  | [] => h
  | v :: vs => fun j y e => by
    unfold wipeS at e
    by_cases hj : j = v
    · subst hj
      by_cases hl : j < (wipeS sl vs).length
      · rw [List.getElem?_set_self hl] at e; cases e
      · rw [List.getElem?_eq_none (by simpa using Nat.le_of_not_lt hl)] at e; cases e
    · rw [List.getElem?_set_ne (Ne.symm hj)] at e
      obtain ⟨w, e1, r1⟩ := SlR.wipe h vs j y e
      refine ⟨w, ?_, r1⟩
      unfold L2.wipe
      rw [List.getElem?_set_ne (Ne.symm hj)]
      exact e1
theorem gNames_ok : ∀ {is : List Nat} {ds : List PyData} {xs : List V} {σ : CxSt} {sl sl' : Sl} {Q : CxSt → Hp → Prop}, setMany is ds sl = some sl' → DqAll K F xs ds → SlR K ι F n σ sl → sl.length ≤ σ.length →
    (∀ σ2, SlR K ι F n σ2 sl' → σ2.length = σ.length → sl'.length = sl.length → (∀ vs, (∀ i ∈ is, i ∈ vs) → L2.wipe σ2 vs = L2.wipe σ vs) → Q σ2 H) → gNames is xs σ H Q
  | [], [], xs, σ, sl, sl', Q, e, d, hs, hz, k => by
    cases d
    simp [setMany] at e
    subst e
    exact ⟨rfl, k σ hs rfl rfl fun _ _ => rfl⟩
  | i :: is, dd :: ds, xs, σ, sl, sl', Q, e, d, hs, hz, k => by
    cases d with
    | cons a b =>
      unfold setMany at e
      refine ⟨_, _, rfl, gNames_ok (sl := sl.set i (some (.d dd))) e b (hs.set hz a) (by simpa using hz) fun σ2 h2 l2 l3 w2 => k σ2 h2 (by simpa using l2) (by simpa using l3) fun vs hv => ?_⟩
      rw [w2 vs fun j hj => hv j (List.mem_cons_of_mem _ hj), wipe_set (hv i List.mem_cons_self)]
  | [], _ :: _, _, _, _, _, _, e, _, _, _, _ => by simp [setMany] at e
  | _ :: _, [], _, _, _, _, _, e, _, _, _, _ => by simp [setMany] at e
theorem setMany_len : ∀ {is : List Nat} {ds : List PyData} {sl sl' : Sl}, setMany is ds sl = some sl' → ds.length = is.length
  | [], [], _, _, _ => rfl
  | i :: is, d :: ds, sl, sl', e => by
    unfold setMany at e
    simp [setMany_len e]
  | [], _ :: _, _, _, e => by simp [setMany] at e
  | _ :: _, [], _, _, e => by simp [setMany] at e
theorem Tg.ok {t : Tg} {d : PyData} {x : V} {Q : CxSt → Hp → Prop} (e : setT t d sl = some sl') (hd : Dq K F x d) (s : Same F H) (hs : SlR K ι F n σ sl) (hz : sl.length ≤ σ.length)
    (k : ∀ σ2, SlR K ι F n σ2 sl' → σ2.length = σ.length → sl'.length = sl.length → (∀ vs, (∀ i ∈ t.ix, i ∈ vs) → L2.wipe σ2 vs = L2.wipe σ vs) → Q σ2 H) : t.g K x σ H Q := by
  cases t with
  | nm i =>
    simp [setT] at e
    subst e
    exact k _ (hs.set hz hd) (by simp) (by simp) fun vs hv => wipe_set (hv i (by simp [Tg.ix]))
  | tp is =>
    unfold setT at e
    dsimp only at e
    split at e
    · rename_i ds
      cases hd with
      | tup q dd _ => exact ⟨_, _, rfl, SqT.mono s q, by rw [dd.length]; exact setMany_len e, gNames_ok e dd hs hz k⟩
    · cases e
end

/-! ### a list comprehension -/
def nb {α β : Type} (r : R α) (k : α → Sto → R β) : R β := match r with
  | .ok a S => k a S
  | _ => .bad
def lcGo (tg : Tg) (tt : DB) (el : DE) (sl : Sl) : Nat → List PyData → Sto → R (List Val)
  | _, [], S => .ok [] S
  | n, d :: ds, S => match setT tg d sl with
    | none => .bad
    | some sl' => nb (tt sl' S) fun b S1 => if b = true then nb (el sl' S1) fun x S2 => if n < sizeLine then (lcGo tg tt el sl (n + 1) ds S2).bind fun xs S3 => .ok (x :: xs) S3 else .bad else lcGo tg tt el sl n ds S1
def lcF (own : List Nat) (it : IT) (tg : Tg) (tt : DB) (el : DE) : DF := fun sl S => (it sl S).bind fun ds S1 => lcGo tg tt el (wipeS sl own) 0 ds S1
def yes : DB := fun _ S => .ok true S
/-- the heap without the object at D -/
def hid (H : Hp) (D : Addr) : Hp := fun a => if a = D then none else H a
section
variable {K : PySem.W.Frag} {mg : Str → Option Value} {ι ι' : Nat → Addr} {F F' G H' : Hp} {S S' : Sto} {D : Addr} {o o' : HO} {n : Nat}
theorem hid_ne {H : Hp} {a : Addr} (h : a ≠ D) : hid H D a = H a := if_neg h
theorem hid_self {H : Hp} : hid H D D = none := if_pos rfl
theorem upd_hid {H : Hp} : upd (hid H D) D o = upd H D o := by
  funext a
  unfold upd hid
  split <;> rfl
theorem upd_hid_self {H : Hp} (h : H D = some o) : upd (hid H D) D o = H := by
  funext a
  unfold upd hid
  split
  · rename_i e; rw [e, h]
  · rfl
theorem Rel.ne (rel : Rel K ι F G S) (hD : G D = none) : ∀ k, k < S.length → ι k ≠ D := fun k hk e => by
  obtain ⟨o, eo⟩ : ∃ o, S[k]? = some o := ⟨_, List.getElem?_eq_getElem hk⟩
  have := rel.obj k o eo
  cases o with
  | lst ys => obtain ⟨_, vs, g1, _⟩ := this; rw [e, hD] at g1; cases g1
  | frz x =>
    obtain ⟨vs, g1, _⟩ := this
    have := rel.sub _ _ g1
    rw [e, hD] at this
    cases this
  | gh x => obtain ⟨_, g0⟩ := this; obtain ⟨ps, g1, _⟩ := g0.at_; rw [e, hD] at g1; cases g1
/-- an object beside the store -/
theorem Rel.beside (rel : Rel K ι F G S) (hD : G D = none) : Rel K ι F (upd G D o) S where
  sub := fun a u h => by
    have := rel.sub _ _ h
    rw [upd_ne (ne_of_none this hD)]
    exact this
  inj := rel.inj
  obj := fun k u e => by
    have h := rel.obj k u e
    cases u with
    | frz x => exact h
    | lst xs =>
      obtain ⟨h0, vs, h1, h2⟩ := h
      exact ⟨h0, vs, by rw [upd_ne (ne_of_none h1 hD)]; exact h1, h2⟩
    | gh x =>
      obtain ⟨h0, h2⟩ := h
      exact ⟨h0, h2.ext (Same.refl _) fun b u e => by rw [upd_ne (ne_of_none e hD)]; exact e⟩
theorem Rel.hide (rel : Rel K ι F H' S) (f0 : F D = none) (hn : ∀ k, k < S.length → ι k ≠ D) {ws : List V} (hDl : H' D = some (.lst ws)) : Rel K ι F (hid H' D) S where
  sub := fun a u h => by
    rw [hid_ne (ne_of_none h f0)]
    exact rel.sub _ _ h
  inj := rel.inj
  obj := fun k u e => by
    have h := rel.obj k u e
    have hk := (List.getElem?_eq_some_iff.mp e).1
    cases u with
    | frz x => exact h
    | lst xs =>
      obtain ⟨h0, vs, h1, h2⟩ := h
      exact ⟨h0, vs, by rw [hid_ne (hn k hk)]; exact h1, h2⟩
    | gh x =>
      obtain ⟨h0, h2⟩ := h
      exact ⟨h0, h2.but hDl fun b o hb e => by rw [hid_ne hb]; exact e⟩
theorem Stp.hide (rel : Rel K ι F G S) (hD : G D = none) (st : Stp ι F (upd G D o) S.length ι' F' H' n) : Stp ι F G S.length ι' F' (hid H' D) n ∧ H' D = some o ∧ F' D = none ∧ ∀ k, k < n → ι' k ≠ D := by
  have ne := rel.ne hD
  have f0 : F D = none := rel.sub.free hD
  have keep : ∀ a u, G a = some u → upd G D o a = some u := fun a u h => by rw [upd_ne (ne_of_none h hD)]; exact h
  refine ⟨⟨st.le, st.ag, st.ff, fun a u h hn => ?_, fun a u h => ?_, fun k h1 h2 => ?_, fun a u h => ?_⟩, st.out D o upd_same ne, ?_, fun k hk => ?_⟩
  · rw [hid_ne (ne_of_none h hD)]
    exact st.out a u (keep a u h) hn
  · obtain ⟨u', e⟩ := st.dom a u (keep a u h)
    exact ⟨u', by rw [hid_ne (ne_of_none h hD)]; exact e⟩
  · have := st.new k h1 h2
    cases q : G (ι' k) with
    | none => rfl
    | some u => rw [keep _ _ q] at this; cases this
  · rcases st.fnew a u h with h | h | h
    · exact .inl h
    · refine .inr (.inl ?_)
      cases q : G a with
      | none => rfl
      | some u => rw [keep _ _ q] at h; cases h
    · exact .inr (.inr h)
  · cases q : F' D with
    | none => rfl
    | some u =>
      rcases st.fnew D u q with h | h | ⟨k, hk, e⟩
      · rw [f0] at h; cases h
      · rw [upd_same] at h; cases h
      · exact absurd e (ne k hk)
  · by_cases q : k < S.length
    · rw [st.ag k q]; exact ne k q
    · intro e
      have := st.new k (Nat.le_of_not_lt q) hk
      rw [e, upd_same] at this
      cases this
end
section
variable {X : Cx} {W : WX} {pos : Pos}
theorem Aft.nb {K : PySem.W.Frag} {mg : Str → Option Value} {σ : CxSt} {ι : Nat → Addr} {F H : Hp} {n : Nat} {α β : Type} {r : R α} {k : α → Sto → R β} {P : β → Sto → (Nat → Addr) → Hp → Hp → Prop} (h : Aft K mg W σ ι F H n (nb r k) P) :
    ∃ a S1, r = .ok a S1 ∧ Aft K mg W σ ι F H n (k a S1) P := by
  cases r with
  | ok a S1 => exact ⟨a, S1, rfl, h⟩
  | er e S' => exact h.elim
  | bad => exact h.elim
/-- the wish within a block -/
abbrev W0 : WX := fun _ _ _ _ => False
theorem lc_ok {K : PySem.W.Frag} {mg : Str → Option Value} {W : WX} {own : List Nat} {tg : Tg} {tt : DB} {el : DE} {it : IT} (hx : ∀ i ∈ tg.ix, i ∈ own) {σ : CxSt} {H : Hp} {Q : VK} (h : tF K mg W (lcF own it tg tt el) σ H Q) :
    tLc (tI K mg W it) (tg.g K) (tB K mg W0 tt) (tE K mg W0 el) own σ H Q := by
  obtain ⟨ι, F, S, sl, hz, hs, rel, q⟩ := h
  refine ⟨ι, F, S, sl, hz, hs, rel, Aft.imp (Aft.bind q) fun items S1 ι1 F1 H1 ⟨s1, r1, h1⟩ J hJ D hD => ?_⟩
  have hs1 := hs.stp s1
  have hzw : (wipeS sl own).length ≤ (L2.wipe σ own).length := by rw [wipeS_length, wipe_length]; exact hz
  let P : List Val → Sto → (Nat → Addr) → Hp → Hp → Prop := fun xs S' ι' F' H' => ∀ p us, H' p = none → RVs K ι' F' S'.length us xs → Q (.ref p) (upd H' p (.lst us))
  refine ⟨fun i m H => ∃ (ι : Nat → Addr) (F G : Hp) (S : Sto) (acc : List V) (ax : List Val), m = items.length - i ∧ i ≤ items.length ∧ H = upd G D (.lst acc) ∧ G D = none ∧ Rel K ι F G S ∧ Stp ι1 F1 H1 S1.length ι F G S.length ∧ RVs K ι F S.length acc ax ∧
    Aft K mg W σ ι F G S.length ((lcGo tg tt el (wipeS sl own) ax.length (items.drop i) S).bind fun xs S' => .ok (ax ++ xs) S') P, ⟨items.length, ι1, F1, H1, S1, [], [], rfl, Nat.zero_le _, rfl, hD, r1, .refl, .nil, ?_⟩, ?_⟩
  · cases e : lcGo tg tt el (wipeS sl own) 0 items S1 with
    | ok xs S' => rw [e] at h1; simpa [R.bind, e] using h1
    | er x S' => rw [e] at h1; simpa [R.bind, e] using h1
    | bad => rw [e] at h1; exact h1.elim
  · rintro i m _ ⟨ι, F, G, S, acc, ax, rfl, hi, rfl, hG, rel, st, ra, af⟩
    have relA : Rel K ι F (upd G D (.lst acc)) S := rel.beside hG
    by_cases hlt : i < items.length
    · refine .inr ⟨hJ.go i F _ hlt st.ff relA.sub, fun H => ∃ m', m' < items.length - i ∧ ∃ (ι : Nat → Addr) (F G : Hp) (S : Sto) (acc : List V) (ax : List Val), m' = items.length - (i + 1) ∧ i + 1 ≤ items.length ∧ H = upd G D (.lst acc) ∧ G D = none ∧ Rel K ι F G S ∧ Stp ι1 F1 H1 S1.length ι F G S.length ∧ RVs K ι F S.length acc ax ∧
        Aft K mg W σ ι F G S.length ((lcGo tg tt el (wipeS sl own) ax.length (items.drop (i + 1)) S).bind fun xs S' => .ok (ax ++ xs) S') P, fun H' h => h, fun x H2 hy => ?_⟩
      obtain ⟨d, F2, ed, g2, dx⟩ := hJ.yld i F _ x H2 hlt st.ff relA.sub hy
      have edr : items.drop i = d :: items.drop (i + 1) := by
        rw [List.drop_eq_getElem_cons hlt]
        rw [List.getElem?_eq_getElem hlt] at ed
        rw [Option.some.inj ed]
      rw [edr] at af
      unfold lcGo at af
      cases es : setT tg d (wipeS sl own) with
      | none => rw [es] at af; exact af.elim
      | some sl' =>
        rw [es] at af
        dsimp only at af
        have rel2 : Rel K ι F2 H2 S := relA.grow g2
        have stA : Stp ι F (upd G D (.lst acc)) S.length ι F2 H2 S.length := g2.stp
        have hs2 : SlR K ι F2 S.length (L2.wipe σ own) (wipeS sl own) := ((hs1.stp st).wipe own).stp stA
        refine Tg.ok es dx g2.sub hs2 hzw fun σ2 h2 l2 l3 w2 => ⟨by rw [w2 own hx, wipe_wipe], ?_⟩
        have hz2 : sl'.length ≤ σ2.length := by rw [l2, l3]; exact hzw
        -- the test
        have ntt : ∃ b S2, tt sl' S = .ok b S2 ∧ Aft K mg W σ ι F G S.length ((if b = true then nb (el sl' S2) fun x S3 => if ax.length < sizeLine then (lcGo tg tt el (wipeS sl own) (ax.length + 1) (items.drop (i + 1)) S3).bind fun xs S4 => .ok (x :: xs) S4 else .bad
            else lcGo tg tt el (wipeS sl own) ax.length (items.drop (i + 1)) S2).bind fun xs S' => .ok (ax ++ xs) S') P := by
          cases e : tt sl' S with
          | ok b S2 => rw [e] at af; exact ⟨b, S2, rfl, af⟩
          | er x S2 => rw [e] at af; exact af.elim
          | bad => rw [e] at af; exact af.elim
        obtain ⟨b, S2, eb, af⟩ := ntt
        refine ⟨ι, F2, S, sl', hz2, h2, rel2, ?_⟩
        rw [eb]
        intro ι3 F3 H3 st3 rel3
        have stB := stA.trans st3
        cases b with
        | false =>
          obtain ⟨stH, hDd, f0, nD⟩ := Stp.hide rel hG stB
          refine iteF ⟨items.length - (i + 1), by omega, ι3, F3, hid H3 D, S2, acc, ax, rfl, by omega, (upd_hid_self hDd).symm, hid_self, rel3.hide f0 nD hDd, st.trans stH, ra.stp stH, ?_⟩
          exact Aft.stp (by simpa using af) stH
        | true =>
          refine iteT ?_
          rw [if_pos rfl] at af
          have nel : ∃ y S3, el sl' S2 = .ok y S3 ∧ ax.length < sizeLine ∧ Aft K mg W σ ι F G S.length ((lcGo tg tt el (wipeS sl own) (ax.length + 1) (items.drop (i + 1)) S3).bind fun xs S' => .ok (ax ++ y :: xs) S') P := by
            cases e : el sl' S2 with
            | ok y S3 =>
              rw [e] at af
              simp only [DV.nb] at af
              by_cases hsz : ax.length < sizeLine
              · rw [if_pos hsz] at af
                refine ⟨y, S3, rfl, hsz, ?_⟩
                cases e4 : lcGo tg tt el (wipeS sl own) (ax.length + 1) (items.drop (i + 1)) S3 with
                | ok xs S4 => rw [e4] at af; exact af
                | er x S4 => rw [e4] at af; exact af
                | bad => rw [e4] at af; exact af.elim
              · rw [if_neg hsz] at af; exact af.elim
            | er x S3 => rw [e] at af; exact af.elim
            | bad => rw [e] at af; exact af.elim
          obtain ⟨y, S3, ey, hsz, af⟩ := nel
          refine ⟨ι3, F3, S2, sl', hz2, h2.stp st3, rel3, ?_⟩
          rw [ey]
          intro ι4 F4 H4 st4 rel4 v rv
          have stC := stB.trans st4
          obtain ⟨stH, hDd, f0, nD⟩ := Stp.hide rel hG stC
          refine ⟨acc, hDd, by rw [ra.length]; exact hsz, items.length - (i + 1), by omega, ι4, F4, hid H4 D, S3, acc ++ [v], ax ++ [y], rfl, by omega, upd_hid.symm, hid_self, rel4.hide f0 nD hDd, st.trans stH, (ra.stp stH).append (.cons rv .nil), ?_⟩
          have e5 : (ax ++ [y]).length = ax.length + 1 := by simp
          rw [e5]
          refine Aft.stp ?_ stH
          have e6 : ∀ xs, ax ++ [y] ++ xs = ax ++ y :: xs := fun xs => by simp
          simp only [e6]
          exact af
    · have hie : i = items.length := by omega
      subst hie
      refine .inl ⟨hJ.stop _ F _ (Nat.le_refl _) st.ff relA.sub, ?_⟩
      rw [List.drop_length] at af
      simp only [lcGo, R.bind, List.append_nil] at af
      exact af ι F G .refl rel D acc hG ra
/-- the context of a block -/
abbrev InBlk (X : Cx) (scope : Scope) (k : Cx → Prop) : Prop := ∀ (s : Shared) (H : Hp) (C : Addr) (cl : List (Str × Addr)) (fp : List Addr), k (X.blk s H scope (compEnvC scope cl C X.env) fp)
def QTs (X : Cx) (W : WX) (ifs : List Expr) (f : DB) : Prop := PTs X ifs (tB X.K X.mg W f)
theorem ts_nil : QTs X W [] yes := ⟨fun pins s σ H Q I hw => pts_nil.run pins s σ H Q I (by
  obtain ⟨ι, F, S, sl, hz, hs, rel, q⟩ := hw
  exact q ι F H .refl rel)⟩
theorem ts_one {c : Expr} {f : DB} (h : QT X W c f) : QTs X W [c] f := pts_one h
theorem f_lc {elt tg iter : Expr} {ifs : List Expr} {scope : Scope} {own : List (Str × Nat)} {it : IT} {t : Tg} {tt : DB} {el : DE} (hc : X.calm = true) (hN : X.N.Nodup) (hi : QI X W tg iter it) (ok : BlkOk X.N X.env.scope scope own)
    (hx : ∀ i ∈ t.ix, i ∈ own.map (·.2))
    (hg : InBlk X scope fun Y => PG Y tg (t.g X.K)) (ht : InBlk X scope fun Y => QTs Y W0 ifs tt) (he : InBlk X scope fun Y => QE Y W0 elt el) (hs : ∀ x, foldedSetIterable iter X.env x = pure x := by intro _; rfl) :
    QF X W (.ListComp elt [⟨tg, iter, ifs, 0⟩] scope pos) (lcF (own.map (·.2)) it t tt el) :=
  PE.imp (pe_lc (tt := tB X.K X.mg W0 tt) (te := tE X.K X.mg W0 el) hc hN hi ok hg ht he hs) fun σ H Q q => lc_ok hx q
end
end DV
set_option Elab.async false
set_option linter.all false
set_option maxRecDepth 100000
namespace DV
open PySem PySem.Spec PyProof.Rows L2

inductive RS where
  | nx (sl : Sl) (S : Sto)
  | rt (d : PyData) (S : Sto)
  | bk (sl : Sl) (S : Sto)
  | ct (sl : Sl) (S : Sto)
  | er (e : Exn) (sl : Sl) (S : Sto)
  | bad
abbrev DS := Sl → Sto → RS
section
variable (K : PySem.W.Frag) (mg : Str → Option Value) (W : WX)
def AtS (ι : Nat → Addr) (F H : Hp) (n : Nat) (sl' : Sl) (S' : Sto) (P : CxSt → Hp → Prop) : Prop := ∀ ι' F' H' σ', Stp ι F H n ι' F' H' S'.length → Rel K ι' F' H' S' → sl'.length ≤ σ'.length → SlR K ι' F' S'.length σ' sl' → P σ' H'
def AftS (D : Ends) (ι : Nat → Addr) (F H : Hp) (n : Nat) : RS → Prop
  | .nx sl' S' => AtS K ι F H n sl' S' D.nx
  | .bk sl' S' => AtS K ι F H n sl' S' D.bk
  | .ct sl' S' => AtS K ι F H n sl' S' D.ct
  | .rt d S' => ∀ ι' F' H' v, Stp ι F H n ι' F' H' S'.length → Rel K ι' F' H' S' → Dq K F' v d → D.rt v H'
  | .er e sl' S' => ∀ ι' F' H' σ' cls dd, Stp ι F H n ι' F' H' S'.length → Rel K ι' F' H' S' → sl'.length ≤ σ'.length → SlR K ι' F' S'.length σ' sl' → ErrR K mg F' e cls dd H' → W cls dd σ' H'
  | .bad => False
def tS (g : DS) : TS := fun D σ H => ∃ ι F S sl, sl.length ≤ σ.length ∧ SlR K ι F S.length σ sl ∧ Rel K ι F H S ∧ AftS K mg W D ι F H S.length (g sl S)
end
def QS (X : Cx) (W : WX) (st : Stmt) (g : DS) : Prop := PS X st (tS X.K X.mg W g)
def QB (X : Cx) (W : WX) (sts : List Stmt) (g : DS) : Prop := PSs X sts (tS X.K X.mg W g)
theorem PS.imp {X : Cx} {e : Stmt} {t t' : TS} (h : PS X e t) (k : ∀ D σ H, t' D σ H → t D σ H) : PS X e t' := ⟨fun pins s σ H D I q => h.run pins s σ H D I (k _ _ _ q)⟩
theorem PSs.imp {X : Cx} {e : List Stmt} {t t' : TS} (h : PSs X e t) (k : ∀ D σ H, t' D σ H → t D σ H) : PSs X e t' := ⟨fun pins s σ H D I q => h.run pins s σ H D I (k _ _ _ q)⟩
section
variable {K : PySem.W.Frag} {mg : Str → Option Value} {W : WX} {D : Ends} {ι ι1 : Nat → Addr} {F F1 H H1 : Hp} {n n1 : Nat} {σ : CxSt} {sl : Sl} {S : Sto}
theorem AftS.stp {r : RS} (h : AftS K mg W D ι F H n r) (s : Stp ι F H n ι1 F1 H1 n1) : AftS K mg W D ι1 F1 H1 n1 r := by
  cases r with
  | nx sl' S' => exact fun ι' F' H' σ' s' => h ι' F' H' σ' (s.trans s')
  | bk sl' S' => exact fun ι' F' H' σ' s' => h ι' F' H' σ' (s.trans s')
  | ct sl' S' => exact fun ι' F' H' σ' s' => h ι' F' H' σ' (s.trans s')
  | rt d S' => exact fun ι' F' H' v s' => h ι' F' H' v (s.trans s')
  | er e sl' S' => exact fun ι' F' H' σ' cls dd s' => h ι' F' H' σ' cls dd (s.trans s')
  | bad => exact h
/-- from a reckoning to a statement -/
def thenS {α : Type} (r : R α) (sl : Sl) (k : α → Sto → RS) : RS := match r with
  | .ok a S => k a S
  | .er e S => .er e sl S
  | .bad => .bad
theorem AftS.bind {α : Type} {r : R α} {k : α → Sto → RS} (hz : sl.length ≤ σ.length) (hs : SlR K ι F n σ sl) (h : AftS K mg W D ι F H n (thenS r sl k)) :
    Aft K mg W σ ι F H n r fun a S1 ι1 F1 H1 => Stp ι F H n ι1 F1 H1 S1.length ∧ Rel K ι1 F1 H1 S1 ∧ AftS K mg W D ι1 F1 H1 S1.length (k a S1) := by
  cases r with
  | ok a S1 => exact fun ι1 F1 H1 s rel => ⟨s, rel, AftS.stp (r := k a S1) h s⟩
  | er e S1 => exact fun ι1 F1 H1 cls d s rel er => h ι1 F1 H1 σ cls d s rel hz (hs.stp s) er
  | bad => exact h
end

section
variable {X : Cx} {W : WX} {a b c e : Expr} {es : List Expr} {fa fb fc f : DE} {la : DL} {ba : DB} {pos p p2 : Pos} {st : Stmt} {sts sts2 : List Stmt} {g g2 : DS}
/-! ### blocks -/
def nilS : DS := fun sl S => .nx sl S
def seqS (g g2 : DS) : DS := fun sl S => match g sl S with
  | .nx sl' S' => g2 sl' S'
  | r => r
theorem b_nil : QB X W [] nilS := PSs.imp pss_nil fun D σ H ⟨ι, F, S, sl, hz, hs, rel, q⟩ => q ι F H σ .refl rel hz hs
theorem seq_ok {K : PySem.W.Frag} {mg : Str → Option Value} {W : WX} {D : Ends} {σ : CxSt} {H : Hp} (h : tS K mg W (seqS g g2) D σ H) : tS K mg W g { D with nx := tS K mg W g2 D } σ H := by
  obtain ⟨ι, F, S, sl, hz, hs, rel, q⟩ := h
  refine ⟨ι, F, S, sl, hz, hs, rel, ?_⟩
  unfold seqS at q
  cases eg : g sl S with
  | nx sl' S' =>
    rw [eg] at q
    exact fun ι' F' H' σ' s' r' z' h' => ⟨ι', F', S', sl', z', h', r', AftS.stp (r := g2 sl' S') q s'⟩
  | bk sl' S' => rw [eg] at q; exact q
  | ct sl' S' => rw [eg] at q; exact q
  | rt d S' => rw [eg] at q; exact q
  | er x sl' S' => rw [eg] at q; exact q
  | bad => rw [eg] at q; exact q
theorem b_cons (h : QS X W st g) (hr : QB X W sts g2) : QB X W (st :: sts) (seqS g g2) := PSs.imp (pss_cons h hr) fun D σ H q => seq_ok q
theorem b_one (h : QS X W st g) : QB X W [st] g := pss_one h
/-- code that is never reached -/
def badS : DS := fun _ _ => .bad
theorem s_bad : QS X W st badS := PS.imp ps_never fun D σ H ⟨ι, F, S, sl, hz, hs, rel, q⟩ => q.elim
theorem b_bad : QB X W sts badS := PSs.imp pss_never fun D σ H ⟨ι, F, S, sl, hz, hs, rel, q⟩ => q.elim
def badE : DE := fun _ _ => .bad
theorem q_bad : QE X W e badE := ⟨fun pins s σ H Q I ⟨ι, F, S, sl, hz, hs, rel, q⟩ => q.elim⟩

/-! ### simple statements -/
theorem s_pass : QS X W (.Pass pos) nilS := PS.imp ps_pass fun D σ H ⟨ι, F, S, sl, hz, hs, rel, q⟩ => q ι F H σ .refl rel hz hs
def brkS : DS := fun sl S => .bk sl S
def cntS : DS := fun sl S => .ct sl S
theorem s_break : QS X W (.Break pos) brkS := PS.imp ps_break fun D σ H ⟨ι, F, S, sl, hz, hs, rel, q⟩ => q ι F H σ .refl rel hz hs
theorem s_cont : QS X W (.Continue pos) cntS := PS.imp ps_continue fun D σ H ⟨ι, F, S, sl, hz, hs, rel, q⟩ => q ι F H σ .refl rel hz hs
def exS (f : DE) : DS := fun sl S => thenS (f sl S) sl fun _ S1 => .nx sl S1
theorem s_expr (h : QE X W e f) (hs : swapsWith e none pos.line X.env = pure false := by rfl) : QS X W (.Expr e pos) (exS f) := by
  refine PS.imp (ps_expr h hs) fun D σ H ⟨ι, F, S, sl, hz, hs, rel, q⟩ => ?_
  exact ⟨ι, F, S, sl, hz, hs, rel, Aft.imp (AftS.bind hz hs q) fun x S1 ι1 F1 H1 ⟨s1, r1, h1⟩ u ru => h1 ι1 F1 H1 σ .refl r1 hz (hs.stp s1)⟩
def rtS (f : DE) : DS := fun sl S => thenS (f sl S) sl fun x S1 => match frz S1 x with
  | some (d, S2) => .rt d S2
  | none => .bad
theorem s_ret (h : QE X W e f) : QS X W (.Return (some e) pos) (rtS f) := by
  refine PS.imp (ps_ret h) fun D σ H ⟨ι, F, S, sl, hz, hs, rel, q⟩ => ?_
  refine ⟨ι, F, S, sl, hz, hs, rel, Aft.imp (AftS.bind hz hs q) fun x S1 ι1 F1 H1 ⟨s1, r1, h1⟩ u ru => ?_⟩
  split at h1
  · rename_i d S2 e2
    obtain ⟨F2, g2, d2⟩ := frz_ok e2 r1 ru
    exact h1 ι1 F2 H1 u g2.2.1 g2.2.2 d2
  · exact h1.elim
def rnS : DS := fun _ S => .rt .none S
theorem s_retN : QS X W (.Return none pos) rnS := PS.imp ps_retN fun D σ H ⟨ι, F, S, sl, hz, hs, rel, q⟩ => q ι F H .non .refl rel .non
def ifS (c : DB) (g g2 : DS) : DS := fun sl S => thenS (c sl S) sl fun b S1 => if b = true then g sl S1 else g2 sl S1
theorem s_if (hc : QT X W c ba) (h : QB X W sts g) (h2 : QB X W sts2 g2) : QS X W (.If c sts sts2 pos) (ifS ba g g2) := by
  refine PS.imp (ps_if hc h h2) fun D σ H ⟨ι, F, S, sl, hz, hs, rel, q⟩ => ?_
  refine ⟨ι, F, S, sl, hz, hs, rel, Aft.imp (AftS.bind hz hs q) fun k S1 ι1 F1 H1 ⟨s1, r1, h1⟩ => ?_⟩
  cases k with
  | true => exact iteT ⟨ι1, F1, S1, sl, hz, hs.stp s1, r1, by simpa using h1⟩
  | false => exact iteF ⟨ι1, F1, S1, sl, hz, hs.stp s1, r1, by simpa using h1⟩

/-! ### assignments -/
def asgS (i : Nat) (f : DE) : DS := fun sl S => thenS (f sl S) sl fun x S1 => .nx (sl.set i (some x)) S1
theorem asg_ok {K : PySem.W.Frag} {mg : Str → Option Value} {i : Nat} {D : Ends} {σ : CxSt} {H : Hp} (q : tS K mg W (asgS i f) D σ H) : tAsg (tE K mg W f) (gName i) D σ H := by
  obtain ⟨ι, F, S, sl, hz, hs, rel, q⟩ := q
  exact ⟨ι, F, S, sl, hz, hs, rel, Aft.imp (AftS.bind hz hs q) fun x S1 ι1 F1 H1 ⟨s1, r1, h1⟩ u ru => h1 ι1 F1 H1 _ .refl r1 (by simpa using hz) ((hs.stp s1).set hz ru)⟩
theorem s_set {i : Nat} (h : PS X st (tAsg (tE X.K X.mg W f) (gName i))) : QS X W st (asgS i f) := PS.imp h fun D σ H q => asg_ok q
/-- a tuple of data taken apart -/
def unpS (t : Tg) (f : DE) : DS := fun sl S => thenS (f sl S) sl fun x S1 => match x with
  | .d d => match setT t d sl with
    | some sl' => .nx sl' S1
    | none => .bad
  | _ => .bad
theorem s_unp {t : Tg} (h : PS X st (tAsg (tE X.K X.mg W f) (t.g X.K))) : QS X W st (unpS t f) := by
  refine PS.imp h fun D σ H ⟨ι, F, S, sl, hz, hs, rel, q⟩ => ?_
  refine ⟨ι, F, S, sl, hz, hs, rel, Aft.imp (AftS.bind hz hs q) fun x S1 ι1 F1 H1 ⟨s1, r1, h1⟩ u ru => ?_⟩
  split at h1
  · rename_i d
    split at h1
    · rename_i sl' e1
      exact Tg.ok e1 ru r1.sub (hs.stp s1) hz fun σ2 h2 l2 l3 _ => h1 ι1 F1 H1 σ2 .refl r1 (by rw [l2, l3]; exact hz) h2
    · exact h1.elim
  · exact h1.elim
/-- several names at once, whatever they get -/
def setV : List Nat → List Val → Sl → Option Sl
  | [], [], sl => some sl
  | i :: is, x :: xs, sl => setV is xs (sl.set i (some x))
  | _, _, _ => none
def parS (is : List Nat) (la : DL) : DS := fun sl S => thenS (la sl S) sl fun xs S1 => match setV is xs sl with
  | some sl' => if is.length ≤ 1000 then .nx sl' S1 else .bad
  | none => .bad
theorem setV_len : ∀ {is : List Nat} {xs : List Val} {sl sl' : Sl}, setV is xs sl = some sl' → xs.length = is.length
  | [], [], _, _, _ => rfl
  | i :: is, d :: ds, sl, sl', e => by
    unfold setV at e
    simp [setV_len e]
  | [], _ :: _, _, _, e => by simp [setV] at e
  | _ :: _, [], _, _, e => by simp [setV] at e
theorem gNames_okV {K : PySem.W.Frag} {ι : Nat → Addr} {F H : Hp} {n : Nat} : ∀ {is : List Nat} {xs : List Val} {us : List V} {σ : CxSt} {sl sl' : Sl} {Q : CxSt → Hp → Prop}, setV is xs sl = some sl' → RVs K ι F n us xs → SlR K ι F n σ sl → sl.length ≤ σ.length →
    (∀ σ2, SlR K ι F n σ2 sl' → sl'.length ≤ σ2.length → Q σ2 H) → gNames is us σ H Q
  | [], [], us, σ, sl, sl', Q, e, d, hs, hz, k => by
    cases d
    simp [setV] at e
    subst e
    exact ⟨rfl, k σ hs hz⟩
  | i :: is, dd :: ds, us, σ, sl, sl', Q, e, d, hs, hz, k => by
    cases d with
    | cons a b =>
      unfold setV at e
      exact ⟨_, _, rfl, gNames_okV (sl := sl.set i (some dd)) e b (hs.set hz a) (by simpa using hz) k⟩
  | [], _ :: _, _, _, _, _, _, e, _, _, _, _ => by simp [setV] at e
  | _ :: _, [], _, _, _, _, _, e, _, _, _, _ => by simp [setV] at e
theorem par_ok {K : PySem.W.Frag} {mg : Str → Option Value} {is : List Nat} {D : Ends} {σ : CxSt} {H : Hp} (q : tS K mg W (parS is la) D σ H) {R : TS} (hR : ∀ us H1, gNames is us σ H1 D.nx → us.length = is.length → is.length ≤ 1000 → (∀ p, H1 p = none → gNames is us σ (upd H1 p (.tup us)) D.nx) → R D σ H1) :
    tL K mg W la σ H fun us H1 => us.length = is.length ∧ is.length ≤ 1000 ∧ gNames is us σ H1 D.nx ∧ ∀ p, H1 p = none → gNames is us σ (upd H1 p (.tup us)) D.nx := by
  obtain ⟨ι, F, S, sl, hz, hs, rel, q⟩ := q
  refine ⟨ι, F, S, sl, hz, hs, rel, Aft.imp (AftS.bind hz hs q) fun xs S1 ι1 F1 H1 ⟨s1, r1, h1⟩ us rus => ?_⟩
  split at h1
  · rename_i sl' e1
    split at h1
    · rename_i h1000
      refine ⟨by rw [rus.length]; exact setV_len e1, h1000, gNames_okV e1 rus (hs.stp s1) hz fun σ2 h2 z2 => h1 ι1 F1 H1 σ2 .refl r1 z2 h2, fun p hp => ?_⟩
      have g : Grow F1 H1 F1 (upd H1 p (.tup us)) := ⟨Same.refl _, fun a o h => by rw [upd_ne (ne_of_none h hp)]; exact h, fun a o h => by rw [upd_ne (ne_of_none (r1.sub _ _ h) hp)]; exact r1.sub _ _ h, fun a o h => .inl h⟩
      exact gNames_okV e1 rus (hs.stp s1) hz fun σ2 h2 z2 => h1 ι1 F1 _ σ2 g.stp (r1.grow g) z2 h2
    · exact h1.elim
  · exact h1.elim
/-- .. the pair made and taken apart -/
theorem s_parT {is : List Nat} (h : PS X st (tAsg (tTup (tL X.K X.mg W la)) (gTup X.K is.length (gNames is)))) : QS X W st (parS is la) := by
  refine PS.imp h fun D σ H q => ?_
  obtain ⟨ι, F, S, sl, hz, hs, rel, q⟩ := par_ok q (R := fun _ _ _ => True) fun _ _ _ _ _ _ => trivial
  refine ⟨ι, F, S, sl, hz, hs, rel, Aft.imp q fun xs S1 ι1 F1 H1 k us rus => ?_⟩
  obtain ⟨e1, h1000, _, k⟩ := k us rus
  exact ⟨by rw [e1]; exact Nat.le_trans h1000 (by decide), fun p hp => ⟨p, us, rfl, SqT.of upd_same, e1, k p hp⟩⟩
/-- .. or stored at once -/
theorem s_par {i j : Nat} (h : PS X st (tPar i j (tL X.K X.mg W la))) : QS X W st (parS [i, j] la) := by
  refine PS.imp h fun D σ H q => ?_
  obtain ⟨ι, F, S, sl, hz, hs, rel, q⟩ := par_ok q (R := fun _ _ _ => True) fun _ _ _ _ _ _ => trivial
  refine ⟨ι, F, S, sl, hz, hs, rel, Aft.imp q fun xs S1 ι1 F1 H1 k us rus => ?_⟩
  obtain ⟨e1, _, k, _⟩ := k us rus
  obtain ⟨v, r, rfl, w, r2, rfl, rfl, k⟩ := k
  exact ⟨v, w, rfl, k⟩
theorem s_par3 {i j l : Nat} (h : PS X st (tPar3 i j l (tL X.K X.mg W la))) : QS X W st (parS [i, j, l] la) := by
  refine PS.imp h fun D σ H q => ?_
  obtain ⟨ι, F, S, sl, hz, hs, rel, q⟩ := par_ok q (R := fun _ _ _ => True) fun _ _ _ _ _ _ => trivial
  refine ⟨ι, F, S, sl, hz, hs, rel, Aft.imp q fun xs S1 ι1 F1 H1 k us rus => ?_⟩
  obtain ⟨e1, _, k, _⟩ := k us rus
  obtain ⟨u, r, rfl, v, r2, rfl, w, r3, rfl, rfl, k⟩ := k
  exact ⟨u, v, w, rfl, k⟩
end

/-! ### an owned list is changed -/
section
variable {K : PySem.W.Frag} {ι : Nat → Addr} {F H : Hp} {S : Sto}
theorem own_set {k : Nat} {xs ys : List Val} {us : List V} (rel : Rel K ι F H S) (e : S[k]? = some (.lst xs)) (ru : RVs K ι F S.length us ys) :
    Stp ι F H S.length ι F (upd H (ι k) (.lst us)) (S.set k (.lst ys)).length ∧ Rel K ι F (upd H (ι k) (.lst us)) (S.set k (.lst ys)) := by
  have hk : k < S.length := (List.getElem?_eq_some_iff.mp e).1
  obtain ⟨f0, vs, h1, _⟩ := rel.obj k _ e
  rw [List.length_set]
  refine ⟨⟨Nat.le_refl _, fun _ _ => rfl, Same.refl _, fun a o h hn => ?_, fun a o h => ?_, fun _ h1 h2 => absurd (Nat.lt_of_le_of_lt h1 h2) (Nat.lt_irrefl _), fun a o h => .inl h⟩, fun a o h => ?_, fun i j hi hj => rel.inj i j (by simpa using hi) (by simpa using hj), fun j o ej => ?_⟩
  · rw [upd_ne (Ne.symm (hn k hk))]; exact h
  · by_cases q : a = ι k
    · exact ⟨_, by rw [q]; exact upd_same⟩
    · exact ⟨o, by rw [upd_ne q]; exact h⟩
  · by_cases q : a = ι k
    · subst q; rw [f0] at h; cases h
    · rw [upd_ne q]; exact rel.sub _ _ h
  · rw [List.length_set]
    by_cases q : j = k
    · subst q
      rw [List.getElem?_set_self hk] at ej
      cases ej
      exact ⟨f0, us, upd_same, ru⟩
    · rw [List.getElem?_set_ne (Ne.symm q)] at ej
      have hj : j < S.length := (List.getElem?_eq_some_iff.mp ej).1
      have := rel.obj j o ej
      cases o with
      | frz x => exact this
      | lst zs =>
        obtain ⟨g0, ws, g1, g2⟩ := this
        exact ⟨g0, ws, by rw [upd_ne fun e => q (rel.inj j k hj hk e)]; exact g1, g2⟩
      | gh x =>
        obtain ⟨g0, g2⟩ := this
        exact ⟨g0, g2.but h1 fun b o hb e => by rw [upd_ne hb]; exact e⟩
end
/-- the owned list that an operand is -/
def lstAt (S : Sto) : Val → Option (Nat × List Val)
  | .loc k => match S[k]? with
    | some (.lst xs) => some (k, xs)
    | _ => none
  | _ => none
theorem lstAt_eq {S : Sto} {x : Val} {k : Nat} {xs : List Val} (h : lstAt S x = some (k, xs)) : x = .loc k ∧ S[k]? = some (.lst xs) := by
  unfold lstAt at h
  split at h
  · split at h
    · cases h; exact ⟨rfl, by assumption⟩
    · cases h
  · cases h
section
variable {X : Cx} {W : WX} {a b c e o : Expr} {es : List Expr} {fa fb fc f : DE} {la : DL} {ba : DB} {pos p p2 : Pos} {st : Stmt} {sts sts2 : List Stmt} {g g2 : DS}
/-- a change of an owned list that hands something back -/
def metE (m : List Val → List Val → Option (Val × List Val)) (fo : DE) (la : DL) : DE := fun sl S => (fo sl S).bind fun x S1 => match lstAt S1 x with
  | none => .bad
  | some _ => (la sl S1).bind fun ys S2 => match lstAt S2 x with
    | some (k, xs) => match m xs ys with
      | some (z, xs') => .ok z (S2.set k (.lst xs'))
      | none => .bad
    | none => .bad
/-- a rule that serves such a change -/
def MeD (r : V → List V → Hp → VK → Prop) (m : List Val → List Val → Option (Val × List Val)) : Prop :=
  ∀ (K : PySem.W.Frag) (ι : Nat → Addr) (F H : Hp) (n : Nat) (l : Addr) (vs us : List V) (xs ys : List Val) (z : Val) (xs' : List Val) (Q : VK), m xs ys = some (z, xs') → H l = some (.lst vs) → RVs K ι F n vs xs → RVs K ι F n us ys →
    (∀ v vs', RV K ι F n v z → RVs K ι F n vs' xs' → Q v (upd H l (.lst vs'))) → r (.ref l) us H Q
theorem met_ok {K : PySem.W.Frag} {mg : Str → Option Value} {r : V → List V → Hp → VK → Prop} {m : List Val → List Val → Option (Val × List Val)} (hm : MeD r m) {σ : CxSt} {H : Hp} {Q : VK} (h : tE K mg W (metE m f la) σ H Q) :
    tE K mg W f σ H fun x H1 => tyV K "list" x H1 ∧ tL K mg W la σ H1 fun us H2 => r x us H2 Q := by
  obtain ⟨ι, F, S, sl, hz, hs, rel, q⟩ := h
  refine ⟨ι, F, S, sl, hz, hs, rel, Aft.imp (Aft.bind q) fun x S1 ι1 F1 H1 ⟨s1, r1, h1⟩ u ru => ?_⟩
  split at h1
  · exact h1.elim
  · rename_i q0 e0
    obtain ⟨k0, xs0⟩ := q0
    obtain ⟨ex0, e00⟩ := lstAt_eq e0
    subst ex0
    obtain ⟨_, vs0, h0, _⟩ := r1.obj _ _ e00
    obtain ⟨hk0, rfl⟩ := ru
    refine ⟨.inl ⟨rfl, vs0, SqL.of h0⟩, ι1, F1, S1, sl, hz, hs.stp s1, r1, Aft.imp h1.bind fun ys S2 ι2 F2 H2 ⟨s2, r2, h2⟩ us rus => ?_⟩
    split at h2
    · rename_i k xs e2
      obtain ⟨e3, e2⟩ := lstAt_eq e2
      cases e3
      split at h2
      · rename_i z xs' em
        obtain ⟨_, vs, h3, h4⟩ := r2.obj _ _ e2
        rw [← s2.ag k0 hk0]
        refine hm K ι2 F2 H2 S2.length (ι2 k0) vs us xs ys z xs' Q em h3 h4 rus fun v vs' rz rv => ?_
        obtain ⟨st, r'⟩ := own_set r2 e2 rv
        exact h2 ι2 F2 _ st r' v (rz.stp st)
      · exact h2.elim
    · exact h2.elim
theorem q_met {r : V → List V → Hp → VK → Prop} {m : List Val → List Val → Option (Val × List Val)} (hm : MeD r m) (h : PE X e (tBM X.K "list" r (tE X.K X.mg W f) (tL X.K X.mg W la))) : QE X W e (metE m f la) := PE.imp h fun σ H Q q => met_ok hm q
theorem q_met0 {r : V → List V → Hp → VK → Prop} {m : List Val → List Val → Option (Val × List Val)} (hm : MeD r m) (h : PE X e (tBM0 X.K "list" r (tE X.K X.mg W f))) : QE X W e (metE m f nilL) := by
  refine PE.imp h fun σ H Q q => ?_
  obtain ⟨ι, F, S, sl, hz, hs, rel, q⟩ := met_ok hm q
  refine ⟨ι, F, S, sl, hz, hs, rel, Aft.imp q fun x S1 ι1 F1 H1 k u ru => ?_⟩
  obtain ⟨k1, ι2, F2, S2, sl2, hz2, hs2, rel2, q2⟩ := k u ru
  exact ⟨k1, q2 ι2 F2 H1 .refl rel2 [] .nil⟩
def appM : List Val → List Val → Option (Val × List Val) := fun xs ys => match ys with
  | [y] => if xs.length < sizeLine then some (.d .none, xs ++ [y]) else none
  | _ => none
theorem RVs.one {K : PySem.W.Frag} {ι : Nat → Addr} {F : Hp} {n : Nat} {us : List V} {y : Val} (h : RVs K ι F n us [y]) : ∃ u, us = [u] ∧ RV K ι F n u y := by
  cases h with
  | cons a b => cases b; exact ⟨_, rfl, a⟩
theorem m_app : MeD rAppend appM := fun K ι F H n l vs us xs ys z xs' Q e h1 rx ry k => by
  unfold appM at e
  split at e
  · split at e
    · rename_i hl
      cases e
      obtain ⟨u, rfl, ru⟩ := ry.one
      exact ⟨l, vs, u, rfl, rfl, h1, by rw [rx.length]; exact hl, k _ _ Dq.non (rx.append (.cons ru .nil))⟩
    · cases e
  · cases e
def popM : List Val → List Val → Option (Val × List Val) := fun xs ys => match ys with
  | [] => match xs[xs.length - 1]? with
    | some z => some (z, xs.dropLast)
    | none => none
  | _ => none
theorem RVs.dropLast {K : PySem.W.Frag} {ι : Nat → Addr} {F : Hp} {n : Nat} {vs : List V} {xs : List Val} (h : RVs K ι F n vs xs) : RVs K ι F n vs.dropLast xs.dropLast := by
  induction h with
  | nil => exact .nil
  | cons a t ih =>
    cases t with
    | nil => exact .nil
    | cons b t => exact .cons a ih
theorem RVs.eraseIdx {K : PySem.W.Frag} {ι : Nat → Addr} {F : Hp} {n : Nat} {vs : List V} {xs : List Val} (h : RVs K ι F n vs xs) : ∀ k, RVs K ι F n (vs.eraseIdx k) (xs.eraseIdx k) := by
  induction h with
  | nil => intro k; exact .nil
  | cons a t ih =>
    intro k
    cases k with
    | zero => exact t
    | succ k => exact .cons a (ih k)
theorem m_pop : MeD rPop popM := fun K ι F H n l vs us xs ys z xs' Q e h1 rx ry k => by
  unfold popM at e
  split at e
  · split at e
    · rename_i y ey
      cases e
      cases ry
      obtain ⟨v, ev, rv⟩ := rx.get ey
      exact ⟨l, vs, v, rfl, rfl, h1, by rw [rx.length]; exact ev, k v _ rv rx.dropLast⟩
    · cases e
  · cases e
def popAtM : List Val → List Val → Option (Val × List Val) := fun xs ys => match ys with
  | [.d (.int i)] => if decide (-(2 ^ 63) ≤ i) && decide (i < 2 ^ 63) then match seqIndex? i xs.length with
      | some k => match xs[k]? with
        | some z => some (z, xs.eraseIdx k)
        | none => none
      | none => none else none
  | _ => none
theorem m_popAt : MeD rPopAt popAtM := fun K ι F H n l vs us xs ys z xs' Q e h1 rx ry k => by
  unfold popAtM at e
  split at e
  · split at e
    · rename_i c
      simp only [Bool.and_eq_true, decide_eq_true_eq] at c
      split at e
      · rename_i j ej
        split at e
        · rename_i y ey
          cases e
          obtain ⟨u, rfl, ru⟩ := ry.one
          cases ru
          obtain ⟨v, ev, rv⟩ := rx.get ey
          exact ⟨l, vs, _, j, v, rfl, rfl, h1, c.1, c.2, by rw [rx.length]; exact ej, ev, k v _ rv (rx.eraseIdx j)⟩
        · cases e
      · cases e
    · cases e
  · cases e
def extM (S : Sto) : List Val → List Val → Option (Val × List Val) := fun xs ys => match ys with
  | [.d (.list ds)] => if xs.length + ds.length ≤ sizeLine then some (.d .none, xs ++ ds.map .d) else none
  | _ => none
/-- o[i] = v -/
def putV (S : Sto) (x y z : Val) : Option Sto := match lstAt S x with
  | some (k, xs) => match y with
    | .d (.int i) => match ixN xs.length i with
      | some j => some (S.set k (.lst (xs.set j z)))
      | none => none
    | _ => none
  | none => none
theorem putV_ok {K : PySem.W.Frag} {ι : Nat → Addr} {F H : Hp} {S S' : Sto} {x y z : Val} {u v w : V} {Q : Hp → Prop} (rel : Rel K ι F H S) (e : putV S x y z = some S') (ru : RV K ι F S.length u x) (rv : RV K ι F S.length v y) (rw' : RV K ι F S.length w z)
    (k : ∀ H', Stp ι F H S.length ι F H' S'.length → Rel K ι F H' S' → Q H') : rSetL u v w H Q := by
  unfold putV at e
  split at e
  · rename_i k0 xs e0
    obtain ⟨ex0, e00⟩ := lstAt_eq e0
    subst ex0
    split at e
    · rename_i i
      split at e
      · rename_i j ej
        cases e
        cases rv
        obtain ⟨hk, rfl⟩ := ru
        obtain ⟨_, vs, h1, h2⟩ := rel.obj _ _ e00
        refine ⟨_, vs, i, j, rfl, rfl, h1, by rw [h2.length]; exact ej, ?_⟩
        obtain ⟨st, r'⟩ := own_set rel e00 (h2.set rw' j)
        exact k _ st r'
      · cases e
    · cases e
  · cases e
def putS (fv fo fi : DE) : DS := fun sl S => thenS (fv sl S) sl fun z S1 => thenS (fo sl S1) sl fun x S2 => thenS (fi sl S2) sl fun y S3 => match putV S3 x y z with
  | some S4 => .nx sl S4
  | none => .bad
theorem s_put (h : PS X st (tAsg (tE X.K X.mg W fc) (gSub (tE X.K X.mg W fa) (tE X.K X.mg W fb) rSetL))) : QS X W st (putS fc fa fb) := by
  refine PS.imp h fun D σ H ⟨ι, F, S, sl, hz, hs, rel, q⟩ => ?_
  refine ⟨ι, F, S, sl, hz, hs, rel, Aft.imp (AftS.bind hz hs q) fun z S1 ι1 F1 H1 ⟨s1, r1, h1⟩ w rw' => ?_⟩
  refine ⟨ι1, F1, S1, sl, hz, hs.stp s1, r1, Aft.imp (AftS.bind hz (hs.stp s1) h1) fun x S2 ι2 F2 H2 ⟨s2, r2, h2⟩ u ru => ?_⟩
  refine ⟨ι2, F2, S2, sl, hz, (hs.stp s1).stp s2, r2, Aft.imp (AftS.bind hz ((hs.stp s1).stp s2) h2) fun y S3 ι3 F3 H3 ⟨s3, r3, h3⟩ v rv => ?_⟩
  split at h3
  · rename_i S4 e4
    exact putV_ok r3 e4 (ru.stp s3) rv ((rw'.stp s2).stp s3) fun H' st r' => h3 ι3 F3 H' σ st r' hz ((((hs.stp s1).stp s2).stp s3).stp st)
  · exact h3.elim
/-- o[i], o2[i2] = v, w -/
def put2S (fv fo fi fo2 fi2 : DE) : DS := fun sl S => thenS (fv sl S) sl fun d S1 => match d with
  | .d (.tuple [z, z2]) => thenS (fo sl S1) sl fun x S2 => thenS (fi sl S2) sl fun y S3 => match putV S3 x y (.d z) with
    | some S4 => thenS (fo2 sl S4) sl fun x2 S5 => thenS (fi2 sl S5) sl fun y2 S6 => match putV S6 x2 y2 (.d z2) with
      | some S7 => .nx sl S7
      | none => .bad
    | none => .bad
  | _ => .bad
theorem s_put2 {fd fe : DE} (h : PS X st (tAsg (tE X.K X.mg W fc) (gTup X.K 2 (gCons (gSub (tE X.K X.mg W fa) (tE X.K X.mg W fb) rSetL) (gCons (gSub (tE X.K X.mg W fd) (tE X.K X.mg W fe) rSetL) gNil))))) : QS X W st (put2S fc fa fb fd fe) := by
  refine PS.imp h fun D σ H ⟨ι, F, S, sl, hz, hs, rel, q⟩ => ?_
  refine ⟨ι, F, S, sl, hz, hs, rel, Aft.imp (AftS.bind hz hs q) fun z S1 ι1 F1 H1 ⟨s1, r1, h1⟩ w rw' => ?_⟩
  split at h1
  · rename_i z1 z2
    have hs1 := hs.stp s1
    cases rw' with
    | tup q1 dd _ =>
      cases dd with
      | cons d1 dd =>
        cases dd with
        | cons d2 dd =>
          cases dd
          refine ⟨_, _, rfl, SqT.mono r1.sub q1, rfl, _, _, rfl, ?_⟩
          refine ⟨ι1, F1, S1, sl, hz, hs1, r1, Aft.imp (AftS.bind hz hs1 h1) fun x S2 ι2 F2 H2 ⟨s2, r2, h2⟩ u ru => ?_⟩
          have hs2 := hs1.stp s2
          refine ⟨ι2, F2, S2, sl, hz, hs2, r2, Aft.imp (AftS.bind hz hs2 h2) fun y S3 ι3 F3 H3 ⟨s3, r3, h3⟩ v rv => ?_⟩
          have hs3 := hs2.stp s3
          split at h3
          · rename_i S4 e4
            refine putV_ok r3 e4 (ru.stp s3) rv (Dq.mono (s2.trans s3).ff _ _ d1) fun H4 st r4 => ⟨_, _, rfl, ?_⟩
            have hs4 := hs3.stp st
            have h4 := AftS.stp h3 st
            refine ⟨ι3, F3, S4, sl, hz, hs4, r4, Aft.imp (AftS.bind hz hs4 h4) fun x2 S5 ι5 F5 H5 ⟨s5, r5, h5⟩ u2 ru2 => ?_⟩
            have hs5 := hs4.stp s5
            refine ⟨ι5, F5, S5, sl, hz, hs5, r5, Aft.imp (AftS.bind hz hs5 h5) fun y2 S6 ι6 F6 H6 ⟨s6, r6, h6⟩ v2 rv2 => ?_⟩
            have hs6 := hs5.stp s6
            split at h6
            · rename_i S7 e7
              refine putV_ok r6 e7 (ru2.stp s6) rv2 (Dq.mono ((((s2.trans s3).trans st).trans s5).trans s6).ff _ _ d2) fun H7 st7 r7 => ⟨rfl, h6 ι6 F6 H7 σ st7 r7 hz (hs6.stp st7)⟩
            · exact h6.elim
          · exact h3.elim
  · exact h1.elim
end
end DV
set_option Elab.async false
set_option linter.all false
set_option maxRecDepth 100000
namespace DV
open PySem PySem.Spec PyProof.Rows L2

/-! ### for, while -/
def fgo (tg : Tg) (g : DS) : List PyData → Sl → Sto → RS
  | [], sl, S => .nx sl S
  | d :: ds, sl, S => match setT tg d sl with
    | none => .bad
    | some sl1 => match g sl1 S with
      | .nx sl2 S2 => fgo tg g ds sl2 S2
      | .ct sl2 S2 => fgo tg g ds sl2 S2
      | .bk sl2 S2 => .nx sl2 S2
      | .rt d S2 => .rt d S2
      | .er e sl2 S2 => .er e sl2 S2
      | .bad => .bad
def forS (it : IT) (tg : Tg) (g : DS) : DS := fun sl S => thenS (it sl S) sl fun ds S1 => fgo tg g ds sl S1
def wgo (c : DB) (g : DS) : Nat → Sl → Sto → RS
  | 0, _, _ => .bad
  | n + 1, sl, S => thenS (c sl S) sl fun b S1 => if b = true then match g sl S1 with
      | .nx sl2 S2 => wgo c g n sl2 S2
      | .ct sl2 S2 => wgo c g n sl2 S2
      | .bk sl2 S2 => .nx sl2 S2
      | .rt d S2 => .rt d S2
      | .er e sl2 S2 => .er e sl2 S2
      | .bad => .bad
    else .nx sl S1
def whS (n : Nat) (c : DB) (g : DS) : DS := wgo c g n
section
variable {K : PySem.W.Frag} {mg : Str → Option Value} {W : WX} {D : Ends} {σ : CxSt} {H : Hp}
theorem for_ok {it : IT} {tg : Tg} {g : DS} (q : tS K mg W (forS it tg g) D σ H) : tFor (tI K mg W it) (tg.g K) (tS K mg W g) D σ H := by
  obtain ⟨ι, F, S, sl, hz, hs, rel, q⟩ := q
  refine ⟨ι, F, S, sl, hz, hs, rel, Aft.imp (AftS.bind hz hs q) fun items S1 ι1 F1 H1 ⟨s1, r1, h1⟩ J hJ => ?_⟩
  refine ⟨fun i m σ H => m = items.length - i ∧ i ≤ items.length ∧ ∃ ι F S sl, Same F1 F ∧ sl.length ≤ σ.length ∧ SlR K ι F S.length σ sl ∧ Rel K ι F H S ∧ AftS K mg W D ι F H S.length (fgo tg g (items.drop i) sl S),
    ⟨items.length, rfl, Nat.zero_le _, ι1, F1, S1, sl, Same.refl _, hz, hs.stp s1, r1, h1⟩, ?_⟩
  rintro i m σ H ⟨rfl, hi, ι, F, S, sl, ff, hz, hs, rel, af⟩
  by_cases hlt : i < items.length
  · refine .inr ⟨hJ.go i F H hlt ff rel.sub, fun σ' H' => ∃ m', m' < items.length - i ∧ m' = items.length - (i + 1) ∧ i + 1 ≤ items.length ∧ ∃ ι F S sl, Same F1 F ∧ sl.length ≤ σ'.length ∧ SlR K ι F S.length σ' sl ∧ Rel K ι F H' S ∧ AftS K mg W D ι F H' S.length (fgo tg g (items.drop (i + 1)) sl S), fun _ _ h => h, fun x H2 hy => ?_⟩
    obtain ⟨d, F2, ed, g2, dx⟩ := hJ.yld i F H x H2 hlt ff rel.sub hy
    have edr : items.drop i = d :: items.drop (i + 1) := by
      rw [List.drop_eq_getElem_cons hlt]
      rw [List.getElem?_eq_getElem hlt] at ed
      rw [Option.some.inj ed]
    rw [edr] at af
    unfold fgo at af
    cases es : setT tg d sl with
    | none => rw [es] at af; exact af.elim
    | some sl1 =>
      rw [es] at af
      dsimp only at af
      have st2 : Stp ι F H S.length ι F2 H2 S.length := g2.stp
      refine Tg.ok es dx g2.sub (hs.stp st2) hz fun σ2 h2 l2 l3 _ => ⟨ι, F2, S, sl1, by rw [l2, l3]; exact hz, h2, rel.grow g2, ?_⟩
      have nxt : ∀ {sl2 S2}, AftS K mg W D ι F H S.length (fgo tg g (items.drop (i + 1)) sl2 S2) → AtS K ι F2 H2 S.length sl2 S2 (fun σ' H' => ∃ m', m' < items.length - i ∧ m' = items.length - (i + 1) ∧ i + 1 ≤ items.length ∧ ∃ ι F S sl, Same F1 F ∧ sl.length ≤ σ'.length ∧ SlR K ι F S.length σ' sl ∧ Rel K ι F H' S ∧ AftS K mg W D ι F H' S.length (fgo tg g (items.drop (i + 1)) sl S)) := by
        intro sl2 S2 h ι' F' H' σ' st' r' z' h'
        exact ⟨items.length - (i + 1), by omega, rfl, hlt, ι', F', S2, sl2, (ff.trans st2.ff).trans st'.ff, z', h', r', AftS.stp h (st2.trans st')⟩
      cases eg : g sl1 S with
      | nx sl2 S2 => rw [eg] at af; exact nxt af
      | ct sl2 S2 => rw [eg] at af; exact nxt af
      | bk sl2 S2 =>
        rw [eg] at af
        exact AftS.stp (r := .nx sl2 S2) af st2
      | rt d S2 =>
        rw [eg] at af
        exact AftS.stp (r := .rt d S2) af st2
      | er e sl2 S2 =>
        rw [eg] at af
        exact AftS.stp (r := .er e sl2 S2) af st2
      | bad => rw [eg] at af; exact af.elim
  · have hie : i = items.length := by omega
    subst hie
    refine .inl ⟨hJ.stop _ F H (Nat.le_refl _) ff rel.sub, ?_⟩
    rw [List.drop_length] at af
    exact af ι F H σ .refl rel hz hs
theorem wh_ok {c : DB} {g : DS} {n : Nat} (q : tS K mg W (whS n c g) D σ H) : tWhile (tB K mg W c) (tS K mg W g) D σ H := by
  refine ⟨fun m σ H => tS K mg W (wgo c g m) D σ H, ⟨n, q⟩, fun m σ H q => ?_⟩
  obtain ⟨ι, F, S, sl, hz, hs, rel, q⟩ := q
  cases m with
  | zero => exact q.elim
  | succ m =>
    refine ⟨ι, F, S, sl, hz, hs, rel, Aft.imp (AftS.bind hz hs q) fun b S1 ι1 F1 H1 ⟨s1, r1, h1⟩ => ?_⟩
    cases b with
    | false => exact iteF ((by simpa using h1 : AftS K mg W D ι1 F1 H1 S1.length (.nx sl S1)) ι1 F1 H1 σ .refl r1 hz (hs.stp s1))
    | true =>
      rw [if_pos rfl] at h1
      refine iteT ⟨fun σ' H' => tS K mg W (wgo c g m) D σ' H', fun σ' H' h => ⟨m, Nat.lt_succ_self m, h⟩, ι1, F1, S1, sl, hz, hs.stp s1, r1, ?_⟩
      have nxt : ∀ {sl2 S2}, AftS K mg W D ι1 F1 H1 S1.length (wgo c g m sl2 S2) → AtS K ι1 F1 H1 S1.length sl2 S2 (fun σ' H' => tS K mg W (wgo c g m) D σ' H') := fun {sl2 S2} h ι' F' H' σ' st' r' z' h' => ⟨ι', F', S2, sl2, z', h', r', AftS.stp h st'⟩
      cases eg : g sl S1 with
      | nx sl2 S2 => rw [eg] at h1; exact nxt h1
      | ct sl2 S2 => rw [eg] at h1; exact nxt h1
      | bk sl2 S2 => rw [eg] at h1; exact h1
      | rt d S2 => rw [eg] at h1; exact h1
      | er e sl2 S2 => rw [eg] at h1; exact h1
      | bad => rw [eg] at h1; exact h1.elim
end
section
variable {X : Cx} {W : WX} {c e iter tg : Expr} {f : DE} {la : DL} {ba : DB} {pos p : Pos} {sts : List Stmt} {g : DS}
theorem s_for {it : IT} {t : Tg} (hp : PassesOwn (model X.prog X.w) X.A X.env X.xe) (hc : X.calm = true) (hi : QI X W tg iter it) (hg : PG X tg (t.g X.K)) (hb : QB X W sts g) (hs : ∀ x, foldedSetIterable iter X.env x = pure x := by intro _; rfl) : QS X W (.For tg iter sts [] pos) (forS it t g) :=
  PS.imp (ps_for hp hc hi hg hb (hs := hs)) fun D σ H q => for_ok q
theorem s_while {n : Nat} (hp : PassesOwn (model X.prog X.w) X.A X.env X.xe) (hc : QT X W c ba) (hb : QB X W sts g) : QS X W (.While c sts [] pos) (whS n ba g) :=
  PS.imp (ps_while hp hc hb) fun D σ H q => wh_ok q
end

/-! ### defs -/
inductive FR where
  | ok (x : PyData)
  | er (e : Exn)
  | bad
abbrev FnP := List PyData → FR
def slots (n : Nat) (xs : List Val) : Sl := xs.map some ++ List.replicate (n - xs.length) none
def endP : RS → FR
  | .nx _ _ => .ok .none
  | .rt d _ => .ok d
  | .er e _ _ => .er e
  | _ => .bad
def runP (n m : Nat) (g : DS) : FnP := fun args => if args.length = m then endP (g (slots n (args.map .d)) []) else .bad
/-- the promise of a def that is a function of data -/
def spP (K : PySem.W.Frag) (mg : Str → Option Value) (n : Nat) (Fn : FnP) : Sp := fun vs H Q E => ∃ (F : Hp) (args : List PyData), vs.length = n ∧ Same F H ∧ DqAll K F vs args ∧ match Fn args with
  | .ok x => ∀ v H' F', Grow F H F' H' → Dq K F' v x → Q v H'
  | .er e => ∀ H' F' cls d, Grow F H F' H' → ErrR K mg F' e cls d H' → E cls d H'
  | .bad => False
/-- a def that has an owned list handed in first -/
inductive FRr where
  | ok (x : PyData) (row : List PyData)
  | bad
abbrev FnR := List PyData → List PyData → FRr
def outR (x : PyData) (S : Sto) : FRr := match S[(0 : Nat)]? with
  | some (.lst xs) => match allD xs with
    | some r => .ok x r
    | none => .bad
  | _ => .bad
def endR : RS → FRr
  | .nx _ S => outR .none S
  | .rt d S => outR d S
  | _ => .bad
def runR (n m : Nat) (g : DS) : FnR := fun args row => if args.length + 1 = m then endR (g (slots n (.loc 0 :: args.map .d)) [.lst (row.map .d)]) else .bad
theorem runP_len {n m : Nat} {g : DS} (args : List PyData) (x : PyData) (h : runP n m g args = .ok x ∨ ∃ e, runP n m g args = .er e) : args.length = m := by
  unfold runP at h
  by_cases c : args.length = m
  · exact c
  · rw [if_neg c] at h
    rcases h with h | ⟨e, h⟩ <;> cases h
theorem runR_len {n m : Nat} {g : DS} (args row : List PyData) (x : PyData) (row' : List PyData) (h : runR n m g args row = .ok x row') : args.length + 1 = m := by
  unfold runR at h
  by_cases c : args.length + 1 = m
  · exact c
  · rw [if_neg c] at h
    cases h
structure GrowB (a : Addr) (F H F' H' : Hp) : Prop where
  ff : Same F F'
  out : ∀ b o, b ≠ a → H b = some o → H' b = some o
  sub : Same F' H'
  fnew : ∀ b o, F' b = some o → F b = some o ∨ H b = none
def spR (K : PySem.W.Frag) (n : Nat) (Fn : FnR) : Sp := fun vs H Q _ => ∃ (F : Hp) (a : Addr) (rs us : List V) (row args : List PyData), vs = .ref a :: us ∧ vs.length = n ∧ Same F H ∧ F a = none ∧ H a = some (.lst rs) ∧ DqAll K F rs row ∧ DqAll K F us args ∧ match Fn args row with
  | .ok x row' => ∀ v H' F' rs', GrowB a F H F' H' → H' a = some (.lst rs') → DqAll K F' rs' row' → Dq K F' v x → Q v H'
  | .bad => False
section
variable {K : PySem.W.Frag} {mg : Str → Option Value} {ι ι' : Nat → Addr} {F F' H H' : Hp} {n : Nat}
theorem slots_ok {vs : List V} {xs : List Val} {N : List Str} (r : RVs K ι F n vs xs) : SlR K ι F n (L2.start N vs) (slots N.length xs) := fun i x e => by
  unfold slots at e
  by_cases hi : i < xs.length
  · rw [List.getElem?_append_left (by simpa using hi)] at e
    simp only [List.getElem?_map, Option.map_eq_some_iff] at e
    obtain ⟨y, e1, e2⟩ := e
    obtain ⟨v, e3, rv⟩ := r.get e1
    cases e2
    refine ⟨v, ?_, rv⟩
    unfold L2.start
    rw [List.getElem?_append_left (by rw [List.length_map, r.length]; exact hi), List.getElem?_map, e3]
    rfl
  · rw [List.getElem?_append_right (by simpa using hi)] at e
    rw [List.getElem?_replicate] at e
    split at e <;> cases e
theorem slots_len {vs : List V} {xs : List Val} {N : List Str} (h : vs.length = xs.length) : (slots N.length xs).length ≤ (L2.start N vs).length := by
  unfold slots L2.start
  simp [h]
theorem Stp.grow0 (st : Stp ι F H 0 ι' F' H' n) (s : Same F' H') : Grow F H F' H' :=
  ⟨st.ff, fun a o h => st.out a o h fun k hk => absurd hk (Nat.not_lt_zero k), s, fun a o h => (st.fnew a o h).elim .inl fun q => q.elim .inr fun ⟨k, hk, _⟩ => absurd hk (Nat.not_lt_zero k)⟩
end
section
variable {P : Program} {w : World} {K : PySem.W.Frag} {mg : Str → Option Value} {base : Heap}
/-- the wish of a def's body -/
abbrev WE0 (E : XK) : WX := fun cls d _ H => E cls d H
theorem fn_okP {x qual : Str} {st : Stmt} {f : Addr} {fd : FuncData} {N ps : List Str} {k : Nat} {g : DS} (F : FunD K x qual (defArgs st) (defBody st) (defScope st) [] [] f fd) (S : FnScope N ps (defScope st))
    (hb : ∀ (cdv : Value) (A : Around) (outer : List Env) (s : Shared) (H : Hp) (E : XK), Room k (A.deeper (envOfC qual (defScope st) s.heap.objs.size f cdv)) →
      QB (cxOf (L2N.CX P w) P w K mg base N qual (defScope st) f cdv A outer s H E) (WE0 E) (defBody st) g) :
    FnOk P w K mg base (L2N.CX P w) (k + 1) f fd ps (spP K mg ps.length (runP N.length ps.length g)) := by
  refine F.ok S (fun vs H Q E h => ?_) (fun cdv A outer s H vs Q E hr h => ⟨_, hb cdv A outer s H E hr, ?_⟩)
  · obtain ⟨_, _, h, _⟩ := h; exact h
  · obtain ⟨F, args, hl, sub, da, h⟩ := h
    have rv : RVs K (fun _ => 0) F 0 vs (args.map .d) := RVs.of_all da
    refine ⟨fun _ => 0, F, [], _, slots_len (by rw [rv.length]), slots_ok rv, ⟨sub, fun i j hi => absurd hi (Nat.not_lt_zero i), fun k o e => by simp at e⟩, ?_⟩
    unfold runP at h
    rw [if_pos (by rw [← da.length]; exact hl)] at h
    unfold endP at h
    cases eg : g (slots N.length (args.map .d)) [] with
    | nx sl' S' =>
      rw [eg] at h
      exact fun ι' F' H' σ' st r _ _ => h _ H' F' (st.grow0 r.sub) .non
    | rt d S' =>
      rw [eg] at h
      exact fun ι' F' H' v st r dv => h v H' F' (st.grow0 r.sub) dv
    | er e sl' S' =>
      rw [eg] at h
      exact fun ι' F' H' σ' cls d st r _ _ er => h H' F' cls d (st.grow0 r.sub) er
    | bk sl' S' => rw [eg] at h; exact h.elim
    | ct sl' S' => rw [eg] at h; exact h.elim
    | bad => rw [eg] at h; exact h.elim
theorem fn_okR {x qual : Str} {st : Stmt} {f : Addr} {fd : FuncData} {N ps : List Str} {k : Nat} {g : DS} (F : FunD K x qual (defArgs st) (defBody st) (defScope st) [] [] f fd) (S : FnScope N ps (defScope st))
    (hb : ∀ (cdv : Value) (A : Around) (outer : List Env) (s : Shared) (H : Hp) (E : XK), Room k (A.deeper (envOfC qual (defScope st) s.heap.objs.size f cdv)) →
      QB (cxOf (L2N.CX P w) P w K mg base N qual (defScope st) f cdv A outer s H E) (WE0 E) (defBody st) g) :
    FnOk P w K mg base (L2N.CX P w) (k + 1) f fd ps (spR K ps.length (runR N.length ps.length g)) := by
  refine F.ok S (fun vs H Q E h => ?_) (fun cdv A outer s H vs Q E hr h => ⟨_, hb cdv A outer s H E hr, ?_⟩)
  · obtain ⟨_, _, _, _, _, _, _, h, _⟩ := h; exact h
  · obtain ⟨F, a, rs, us, row, args, rfl, hl, sub, fa, ha, dr, da, h⟩ := h
    have rv : RVs K (fun _ => a) F 1 (.ref a :: us) (.loc 0 :: args.map .d) := .cons ⟨Nat.zero_lt_one, rfl⟩ (RVs.of_all da)
    refine ⟨fun _ => a, F, [.lst (row.map .d)], _, slots_len (by rw [rv.length]), slots_ok rv, ⟨sub, fun i j hi hj _ => by simp at hi hj; omega, fun k o e => ?_⟩, ?_⟩
    · cases k with
      | zero => simp at e; subst e; exact ⟨fa, rs, ha, RVs.of_all dr⟩
      | succ k => simp at e
    · have fin : ∀ (x : PyData) (S' : Sto), (match outR x S' with
          | .ok x row' => ∀ v H' F' rs', GrowB a F H F' H' → H' a = some (.lst rs') → DqAll K F' rs' row' → Dq K F' v x → Q v H'
          | .bad => False) → ∀ ι' F' H' v, Stp (fun _ => a) F H 1 ι' F' H' S'.length → Rel K ι' F' H' S' → Dq K F' v x → Q v H' := by
        intro x S' h ι' F' H' v st r dv
        split at h
        · rename_i x' row' e1
          unfold outR at e1
          split at e1
          · rename_i xs e2
            split at e1
            · rename_i r' e3
              cases e1
              obtain ⟨_, vs', h1, h2⟩ := r.obj 0 _ e2
              rw [st.ag 0 Nat.zero_lt_one] at h1
              refine h v H' F' vs' ⟨st.ff, fun b o hb hh => st.out b o hh fun k hk => Ne.symm hb, r.sub, fun b o hb => ?_⟩ h1 (h2.all e3) dv
              rcases st.fnew b o hb with q | q | ⟨k, hk, q⟩
              · exact .inl q
              · exact .inr q
              · obtain ⟨f0, _⟩ := r.obj 0 _ e2
                rw [st.ag 0 Nat.zero_lt_one] at f0
                have q' : a = b := q
                rw [← q', f0] at hb
                cases hb
            · cases e1
          · cases e1
        · exact h.elim
      unfold runR at h
      rw [if_pos (by rw [← da.length]; exact hl)] at h
      unfold endR at h
      cases eg : g (slots N.length (.loc 0 :: args.map .d)) [.lst (row.map .d)] with
      | nx sl' S' =>
        rw [eg] at h
        exact fun ι' F' H' σ' st r _ _ => fin _ S' h ι' F' H' _ st r .non
      | rt d S' =>
        rw [eg] at h
        exact fun ι' F' H' v st r dv => fin _ S' h ι' F' H' v st r dv
      | bk sl' S' => rw [eg] at h; exact h.elim
      | ct sl' S' => rw [eg] at h; exact h.elim
      | er e sl' S' => rw [eg] at h; exact h.elim
      | bad => rw [eg] at h; exact h.elim
end

/-! ### calls -/
def callP (Fn : FnP) (la : DL) : DE := fun sl S => (la sl S).bind fun xs S1 => match frzL S1 xs with
  | some (ds, S2) => match Fn ds with
    | .ok x => .ok (.d x) S2
    | .er e => .er e S2
    | .bad => .bad
  | none => .bad
def callR (Fn : FnR) (fr : DE) (la : DL) : DE := fun sl S => (fr sl S).bind fun x S1 => (la sl S1).bind fun xs S2 => match frzL S2 xs with
  | some (ds, S3) => match lstAt S3 x with
    | some (k, rs) => match allD rs with
      | some row => match Fn ds row with
        | .ok z row' => .ok (.d z) (S3.set k (.lst (row'.map .d)))
        | .bad => .bad
      | none => .bad
    | none => .bad
  | none => .bad
section
variable {K : PySem.W.Frag} {ι : Nat → Addr} {F F' H H' : Hp} {S : Sto}
theorem own_chg {k : Nat} {xs ys : List Val} {rs' : List V} (rel : Rel K ι F H S) (e : S[k]? = some (.lst xs)) (g : GrowB (ι k) F H F' H') (h' : H' (ι k) = some (.lst rs')) (ru : RVs K ι F' S.length rs' ys) :
    Stp ι F H S.length ι F' H' (S.set k (.lst ys)).length ∧ Rel K ι F' H' (S.set k (.lst ys)) := by
  have hk : k < S.length := (List.getElem?_eq_some_iff.mp e).1
  obtain ⟨f0, vs, h1, _⟩ := rel.obj k _ e
  rw [List.length_set]
  have f0' : F' (ι k) = none := by
    cases q : F' (ι k) with
    | none => rfl
    | some o =>
      rcases g.fnew _ _ q with z | z
      · rw [f0] at z; cases z
      · rw [h1] at z; cases z
  refine ⟨⟨Nat.le_refl _, fun _ _ => rfl, g.ff, fun a o h hn => g.out a o (Ne.symm (hn k hk)) h, fun a o h => ?_, fun _ h1 h2 => absurd (Nat.lt_of_le_of_lt h1 h2) (Nat.lt_irrefl _), fun a o h => (g.fnew a o h).elim .inl fun q => .inr (.inl q)⟩, g.sub, fun i j hi hj => rel.inj i j (by simpa using hi) (by simpa using hj), fun j o ej => ?_⟩
  · by_cases q : a = ι k
    · exact ⟨_, by rw [q]; exact h'⟩
    · exact ⟨o, g.out a o q h⟩
  · rw [List.length_set]
    by_cases q : j = k
    · subst q
      rw [List.getElem?_set_self hk] at ej
      cases ej
      exact ⟨f0', rs', h', ru⟩
    · rw [List.getElem?_set_ne (Ne.symm q)] at ej
      have hj : j < S.length := (List.getElem?_eq_some_iff.mp ej).1
      have := rel.obj j o ej
      have nj : ι j ≠ ι k := fun e => q (rel.inj j k hj hk e)
      cases o with
      | frz x =>
        obtain ⟨ws, g1, g2⟩ := this
        exact ⟨ws, g.ff _ _ g1, DqAll.mono g.ff _ _ g2⟩
      | lst zs =>
        obtain ⟨g0, ws, g1, g2⟩ := this
        refine ⟨?_, ws, g.out _ _ nj g1, g2.mono (Nat.le_refl _) (fun _ _ => rfl) g.ff⟩
        cases q2 : F' (ι j) with
        | none => rfl
        | some u =>
          rcases g.fnew _ _ q2 with z | z
          · rw [g0] at z; cases z
          · rw [g1] at z; cases z
      | gh x =>
        obtain ⟨g0, g2⟩ := this
        refine ⟨?_, (g2.but h1 g.out).ext g.ff fun _ _ h => h⟩
        obtain ⟨ps, g3, _⟩ := g2.at_
        cases q2 : F' (ι j) with
        | none => rfl
        | some u =>
          rcases g.fnew _ _ q2 with z | z
          · rw [g0] at z; cases z
          · rw [g3] at z; cases z
end
section
variable {X : Cx} {W : WX} {e : Expr} {es : List Expr} {fr : DE} {la : DL} {pos p : Pos} {k : Nat} {f : Addr} {fd : FuncData} {ps : List Str} {x : Str}
theorem callP_ok {K : PySem.W.Frag} {mg : Str → Option Value} {W : WX} {Fn : FnP} {n : Nat} {σ : CxSt} {H : Hp} {Q : VK} (hn : ∀ args x, (Fn args = .ok x ∨ ∃ e, Fn args = .er e) → args.length = n) (h : tE K mg W (callP Fn la) σ H Q) :
    tL K mg W la σ H fun us H1 => spP K mg n Fn (us ++ []) H1 Q (WE W σ) := by
  obtain ⟨ι, F, S, sl, hz, hs, rel, q⟩ := h
  refine ⟨ι, F, S, sl, hz, hs, rel, Aft.imp (Aft.bind q) fun xs S1 ι1 F1 H1 ⟨s1, r1, h1⟩ us rus => ?_⟩
  show spP K mg n Fn (us ++ []) H1 Q (WE W σ)
  rw [List.append_nil]
  split at h1
  · rename_i ds S2 e2
    obtain ⟨F2, g2, d2⟩ := frzL_ok e2 r1 rus
    split at h1
    · rename_i x ex
      refine ⟨F2, ds, by rw [d2.length]; exact hn _ x (.inl ex), g2.2.2.sub, d2, ?_⟩
      rw [ex]
      exact fun v H' F' g dv => h1 ι1 F' H' (g2.2.1.trans g.stp) (g2.2.2.grow g) v dv
    · rename_i x ex
      refine ⟨F2, ds, by rw [d2.length]; exact hn _ .none (.inr ⟨_, ex⟩), g2.2.2.sub, d2, ?_⟩
      rw [ex]
      exact fun H' F' cls d g er => h1 ι1 F' H' cls d (g2.2.1.trans g.stp) (g2.2.2.grow g) er
    · exact h1.elim
  · exact h1.elim
theorem q_callP {Fn : FnP} (G : FnOk X.prog X.w X.K X.mg X.base (L2N.CX X.prog X.w) k f fd ps (spP X.K X.mg ps.length Fn)) (hr : Room k X.A) (hg : Gl X x) (hm : X.mg x = some (.ref f)) (hk : PySem.W.keepIn X.K (.ref f) = true) (hb : Binds X.K fd ps [])
    (tk : L2N.Takes X W) (hn : ∀ args x, (Fn args = .ok x ∨ ∃ e, Fn args = .er e) → args.length = ps.length) (ha : QA X W (e :: es) la) (hdb : (x == ("__debug__" : Str)) = false := by decide) (he : starEach (e :: es) X.env = (false, eval e X.env) :: starEach es X.env := by rfl) (hpl : (backTo pos (starEach es X.env)).any (·.1) = false := by rfl) :
    QE X W (.Call (.Name x p) (e :: es) [] pos) (callP Fn la) :=
  PE.imp (pe_callSD G hr hg hm hk hb .nil (fun σ => L2N.passAt tk σ) ha hdb he hpl) fun σ H Q q => callP_ok hn q
theorem callR_ok {K : PySem.W.Frag} {mg : Str → Option Value} {W : WX} {Fn : FnR} {n : Nat} {σ : CxSt} {H : Hp} {Q : VK} (hn : ∀ args row x row', Fn args row = .ok x row' → args.length + 1 = n) (h : tE K mg W (callR Fn fr la) σ H Q) :
    tL K mg W (consL fr la) σ H fun us H1 => spR K n Fn (us ++ []) H1 Q (WE W σ) := by
  obtain ⟨ι, F, S, sl, hz, hs, rel, q⟩ := h
  have q2 : Aft K mg W σ ι F H S.length (((fr sl S).bind fun x S1 => (la sl S1).bind fun xs S2 => .ok (x :: xs) S2).bind fun ys S2 => match ys with
    | x :: xs => (match frzL S2 xs with
      | some (ds, S3) => match lstAt S3 x with
        | some (k, rs) => match allD rs with
          | some row => match Fn ds row with
            | .ok z row' => R.ok (.d z) (S3.set k (.lst (row'.map .d)))
            | .bad => .bad
          | none => .bad
        | none => .bad
      | none => .bad)
    | [] => .bad) (fun x S' ι' F' H' => ∀ u, RV K ι' F' S'.length u x → Q u H') := by
    unfold callR at q
    cases e1 : fr sl S with
    | ok x S1 =>
      rw [e1] at q
      simp only [R.bind] at q ⊢
      cases e2 : la sl S1 with
      | ok xs S2 => rw [e2] at q; exact q
      | er x S2 => rw [e2] at q; exact q
      | bad => rw [e2] at q; exact q
    | er x S1 => rw [e1] at q; exact q
    | bad => rw [e1] at q; exact q
  refine ⟨ι, F, S, sl, hz, hs, rel, Aft.imp (Aft.bind q2) fun ys S1 ι1 F1 H1 ⟨s1, r1, h1⟩ us rus => ?_⟩
  show spR K n Fn (us ++ []) H1 Q (WE W σ)
  rw [List.append_nil]
  cases rus with
  | nil => exact h1.elim
  | @cons v x vs xs rv rvs =>
    dsimp only at h1
    split at h1
    · rename_i ds S3 e2
      obtain ⟨F2, g2, d2⟩ := frzL_ok e2 r1 rvs
      split at h1
      · rename_i k0 rs e3
        obtain ⟨rfl, e3'⟩ := lstAt_eq e3
        split at h1
        · rename_i row e4
          split at h1
          · rename_i z row' e5
            obtain ⟨f0, rs0, h0, hrs⟩ := g2.2.2.obj _ _ e3'
            refine ⟨F2, ι1 k0, rs0, vs, row, ds, by rw [rv.2], ?_, g2.2.2.sub, f0, h0, hrs.all e4, d2, ?_⟩
            · show vs.length + 1 = n
              rw [d2.length]
              exact hn _ _ _ _ e5
            · rw [e5]
              intro v2 H' F' rs' g h' dr dv
              obtain ⟨st, r'⟩ := own_chg (ys := row'.map .d) g2.2.2 e3' g h' (RVs.of_all dr)
              exact h1 ι1 F' H' (g2.2.1.trans st) r' v2 dv
          · exact h1.elim
        · exact h1.elim
      · exact h1.elim
    · exact h1.elim
theorem q_callR {Fn : FnR} (G : FnOk X.prog X.w X.K X.mg X.base (L2N.CX X.prog X.w) k f fd ps (spR X.K ps.length Fn)) (hr : Room k X.A) (hg : Gl X x) (hm : X.mg x = some (.ref f)) (hk : PySem.W.keepIn X.K (.ref f) = true) (hb : Binds X.K fd ps [])
    (tk : L2N.Takes X W) (hn : ∀ args row x row', Fn args row = .ok x row' → args.length + 1 = ps.length) (h0 : QE X W e fr) (ha : QA X W es la) (hdb : (x == ("__debug__" : Str)) = false := by decide) (he : starEach (e :: es) X.env = (false, eval e X.env) :: starEach es X.env := by rfl) (hpl : (backTo pos (starEach es X.env)).any (·.1) = false := by rfl) :
    QE X W (.Call (.Name x p) (e :: es) [] pos) (callR Fn fr la) :=
  PE.imp (pe_callSD G hr hg hm hk hb .nil (fun σ => L2N.passAt tk σ) (a_cons h0 ha he) hdb he hpl) fun σ H Q q => callR_ok hn q

/-! ### raise X() -/
theorem pmk_own0 {C : Addr} {bmB : List Value} {B newId initId : String} (F : ExcBaseFacts B newId initId bmB) (q : PySem.W.excIn X.K C bmB newId = true) (gC : X.mg x = some (.ref C))
    (kC : PySem.W.keepIn X.K (.ref C) = true) (r : Raises X (.ref C)) (hg : Gl X x) (hdb : (x == ("__debug__" : Str)) = false := by decide) :
    L2N.PMk X (.Call (.Name x p) [] [] pos) (fun σ H Q => Q (.ref C) none H) := by
  intro pins s σ H Q I h
  refine wpAny_Call_Name_kw (ld_glob I hg gC ?_ hdb)
  refine PySem.W.callWith_K0 I.kIn kC ?_
  show wpAny _ _ (call (.ref C) []) _ _ _
  obtain ⟨bm, N, nm, qn, bs, hdct, sn, sub, ab, col, dd, k0, k1, k2, k3, k5, mN, hC, hN, hni, T⟩ := exc_obj I.kIn q
  refine wpAny_call_exc_subT F T hC hN hni (fun h' e hm => ?_) (Nat.zero_le _)
  exact L2N.mk_of I hm r h (I.hok.gone hm.new)
def raS (cls : Str) : DS := fun sl S => .er ⟨cls, []⟩ sl S
theorem s_raise0 {C : Addr} {bmB : List Value} {B newId initId : String} (hc : X.calm = true) (tk : L2N.Takes X W) (F : ExcBaseFacts B newId initId bmB) (q : PySem.W.excIn X.K C bmB newId = true) (gC : X.mg x = some (.ref C))
    (kC : PySem.W.keepIn X.K (.ref C) = true) (r : Raises X (.ref C)) (hg : Gl X x) (hdb : (x == ("__debug__" : Str)) = false := by decide) : QS X W (.Raise (some (.Call (.Name x p) [] [] pos)) none pos) (raS x) :=
  PS.imp (L2N.ps_raise hc tk (pmk_own0 F q gC kC r hg hdb)) fun D σ H ⟨ι, S, S', sl, hz, hs, rel, q⟩ => q ι S H σ _ _ .refl rel hz hs ⟨⟨C, rfl, gC⟩, trivial⟩
end
end DV
set_option Elab.async false
set_option linter.all false
set_option maxRecDepth 100000
namespace DV
open PySem PySem.Spec PyProof.Rows L2

/-! ### a < b < c -/
section
variable {X : Cx} {W : WX} {a b c e : Expr} {fa fb fc : DE} {pos : Pos}
theorem chain_ok {K : PySem.W.Frag} {mg : Str → Option Value} {W : WX} {r r' : R2} {g g' : PyData → PyData → Option PyData} (hr : OpD K r g) (hr' : OpD K r' g') {σ : CxSt} {H : Hp} {Q : VK} (h : tE K mg W (chain g g' fa fb fc) σ H Q) :
    tChain r r' (tE K mg W fa) (tE K mg W fb) (tE K mg W fc) σ H Q := by
  obtain ⟨ι, F, S, sl, hz, hs, rel, q⟩ := h
  refine ⟨ι, F, S, sl, hz, hs, rel, Aft.imp (Aft.bind q) fun x S1 ι1 F1 H1 ⟨s1, r1, h1⟩ u ru => ?_⟩
  refine ⟨ι1, F1, S1, sl, hz, hs.stp s1, r1, Aft.imp h1.bind fun y S2 ι2 F2 H2 ⟨s2, r2, h2⟩ v rv => ?_⟩
  have hs2 := (hs.stp s1).stp s2
  refine two_ok hr r2 (ru.stp s2) rv (Aft.imp h2.bind fun z S3 ι3 F3 H3 ⟨s3, r3, h3⟩ w rw' => ?_)
  split at h3
  · cases rw'
    refine ⟨true, rfl, iteT ⟨ι3, F3, S3, sl, hz, hs2.stp s3, r3, Aft.imp h3.bind fun t S4 ι4 F4 H4 ⟨s4, r4, h4⟩ w4 rw4 => ?_⟩⟩
    exact two_ok hr' r4 ((rv.stp s3).stp s4) rw4 h4
  · cases rw'
    exact ⟨false, rfl, iteF (h3 ι3 F3 H3 .refl r3 _ (.bl _))⟩
  · exact h3.elim
theorem q_chain {op op' : CmpOp} {r r' : R2} {g g' : PyData → PyData → Option PyData} (ho : OpR X (compareOp op) r) (ho' : OpR X (compareOp op') r') (hr : OpD X.K r g) (hr' : OpD X.K r' g') (ha : QE X W a fa) (hb : QE X W b fb) (hc : QE X W c fc)
    (hm : lastMarks [op, op'] [b, c] = false := by with_unfolding_all rfl) : QE X W (.Compare a [op, op'] [b, c] pos) (chain g g' fa fb fc) := PE.imp (pe_chain ho ho' ha hb hc hm) fun σ H Q q => chain_ok hr hr' q
theorem t_chain {op op' : CmpOp} {r r' : R2} {g g' : PyData → PyData → Option PyData} (ho : OpR X (compareOp op) r) (ho' : OpR X (compareOp op') r') (hr : OpD X.K r g) (hr' : OpD X.K r' g') (ha : QE X W a fa) (hb : QE X W b fb) (hc : QE X W c fc)
    (hm : lastMarks [op, op'] [b, c] = false := by with_unfolding_all rfl) : QT X W (.Compare a [op, op'] [b, c] pos) (asB (chain g g' fa fb fc)) := PT.imp (pt_chain ho ho' ha hb hc hm) fun σ H Q q => chain_ok hr hr' (asB_ok q)
end

/-! ### further new lists: list(x), xs * n -/
def lstF (f : DE) : DF := fun sl S => (f sl S).bind fun x S1 => match dat S1 x with
  | some (.list ds) => .ok (ds.map .d) S1
  | some (.tuple ds) => .ok (ds.map .d) S1
  | _ => .bad
def repF (fa fb : DE) : DF := fun sl S => (fa sl S).bind fun x S1 => (fb sl S1).bind fun y S2 => match dat S2 x, y with
  | some (.list ds), .d (.int k) => if decide (-(2 ^ 63) ≤ k) && decide (k < 2 ^ 63) && decide (ds.length * k.toNat ≤ sizeLine) then .ok ((List.replicate k.toNat ds).flatten.map .d) S2 else .bad
  | _, _ => .bad
def rgF (it : IT) : DF := fun sl S => (it sl S).bind fun ds S1 => if ds.length ≤ 10000000 then .ok (ds.map .d) S1 else .bad
section
variable {X : Cx} {W : WX} {a b c e : Expr} {es : List Expr} {fa fb fc f : DE} {la : DL} {pos p : Pos}
theorem f_list (h : PE X e (tCB (fun xs H Q => ∃ p ys, xs = [.ref p] ∧ (SqL X.K H p ys ∨ SqT X.K H p ys) ∧ ∀ l, H l = none → Q (.ref l) (upd H l (.lst ys))) (tCons (tE X.K X.mg W f) tNil))) : QF X W e (lstF f) := by
  refine PE.imp h fun σ H Q ⟨ι, F, S, sl, hz, hs, rel, q⟩ => ?_
  refine ⟨ι, F, S, sl, hz, hs, rel, Aft.imp (Aft.bind q) fun x S1 ι1 F1 H1 ⟨s1, r1, h1⟩ u ru => ?_⟩
  split at h1
  · rename_i ds ed
    obtain ⟨a, vs, rfl, q1, d1⟩ := (ru.dat r1 ed).list r1.sub
    exact ⟨a, vs, rfl, .inl (SqL.of q1), fun l hl => h1 ι1 F1 H1 .refl r1 l vs hl (RVs.of_all d1)⟩
  · rename_i ds ed
    obtain ⟨a, vs, rfl, q1, d1⟩ := (ru.dat r1 ed).tuple r1.sub
    exact ⟨a, vs, rfl, .inr q1, fun l hl => h1 ι1 F1 H1 .refl r1 l vs hl (RVs.of_all d1)⟩
  · exact h1.elim
theorem f_rep (ha : QE X W a fa) (hb : QE X W b fb) : QF X W (.BinOp a .Mult b pos) (repF fa fb) := by
  refine PE.imp (pe_op op_rep ha hb) fun σ H Q ⟨ι, F, S, sl, hz, hs, rel, q⟩ => ?_
  refine ⟨ι, F, S, sl, hz, hs, rel, Aft.imp (Aft.bind q) fun x S1 ι1 F1 H1 ⟨s1, r1, h1⟩ u ru => ?_⟩
  refine ⟨ι1, F1, S1, sl, hz, hs.stp s1, r1, Aft.imp h1.bind fun y S2 ι2 F2 H2 ⟨s2, r2, h2⟩ v rv => ?_⟩
  split at h2
  · rename_i ds k ed _
    split at h2
    · rename_i c
      simp only [Bool.and_eq_true, decide_eq_true_eq] at c
      obtain ⟨a, vs, rfl, q1, d1⟩ := ((ru.stp s2).dat r2 ed).list r2.sub
      cases rv
      exact ⟨a, _, vs, rfl, rfl, q1, c.1.1, c.1.2, by rw [d1.length]; exact c.2, fun l hl => h2 ι2 F2 H2 .refl r2 l _ hl (RVs.of_all (d1.rep _))⟩
    · exact h2.elim
  · exact h2.elim
theorem rgV_list {K : PySem.W.Frag} {F : Hp} (a b : Int) : DqAll K F (rgV a b) (rangeL a (b - a).toNat) := by
  unfold rgV rangeL
  generalize (b - a).toNat = n
  have : ∀ (l : List Nat), DqAll K F (l.map fun i => V.int (a + (i : Nat))) (l.map fun i => PyData.int (a + (i : Nat))) := by
    intro l
    induction l with
    | nil => exact .nil
    | cons x l ih => exact .cons (.int _) ih
  exact this _
/-- list(range(n)), list(range(a, b)) -/
def rg1 (f : DE) : IT := rng1 (consL f nilL)
theorem f_rg1 (h : PE X e (tLstRg (tRg1 (tE X.K X.mg W f)))) : QF X W e (rgF (rg1 f)) := by
  refine PE.imp h fun σ H Q ⟨ι, F, S, sl, hz, hs, rel, q⟩ => ?_
  have q2 : Aft X.K X.mg W σ ι F H S.length ((f sl S).bind fun x S1 => match x with
    | .d (.int j) => if decide (-(2 ^ 62) ≤ j) && decide (j < 2 ^ 62) then (if (rangeL 0 j.toNat).length ≤ 10000000 then R.ok ((rangeL 0 j.toNat).map .d) S1 else .bad) else .bad
    | _ => .bad) (fun xs S' ι' F' H' => ∀ p us, H' p = none → RVs X.K ι' F' S'.length us xs → Q (.ref p) (upd H' p (.lst us))) := by
    unfold rgF rg1 rng1 consL nilL at q
    cases ef : f sl S with
    | er x S1 => rw [ef] at q; exact q
    | bad => rw [ef] at q; exact q
    | ok x S1 =>
      rw [ef] at q
      simp only [R.bind] at q ⊢
      cases x with
      | loc k => exact q
      | d x =>
        cases x with
        | int j =>
          dsimp only at q ⊢
          by_cases c : (decide (-(2 ^ 62) ≤ j) && decide (j < 2 ^ 62)) = true
          · rw [if_pos c] at q ⊢; exact q
          · rw [if_neg c] at q; exact q.elim
        | _ => exact q
  refine ⟨ι, F, S, sl, hz, hs, rel, Aft.imp (Aft.bind q2) fun x S1 ι1 F1 H1 ⟨s1, r1, h1⟩ u ru => ?_⟩
  split at h1
  · rename_i j0 _
    cases ru
    split at h1
    · rename_i c
      simp only [Bool.and_eq_true, decide_eq_true_eq] at c
      split at h1
      · rename_i c2
        rw [rangeL_length] at c2
        refine ⟨_, rfl, ⟨by decide, by decide, c.1, c.2, ?_⟩, fun p hp => h1 ι1 F1 H1 .refl r1 p _ hp ?_⟩
        · rw [Int.sub_zero]
          exact Nat.le_trans c2 (by decide)
        · have := rgV_list (K := X.K) (F := F1) 0 j0
          rw [Int.sub_zero] at this
          exact RVs.of_all this
      · exact h1.elim
    · exact h1.elim
  · exact h1.elim
end

/-! ### two clauses -/
/-- later: the store's places kept, more known -/
structure Lat (ι0 : Nat → Addr) (F0 : Hp) (n0 : Nat) (ι : Nat → Addr) (F : Hp) (n : Nat) : Prop where
  le : n0 ≤ n
  ag : ∀ k, k < n0 → ι k = ι0 k
  ff : Same F0 F
def lc2Go (tg : Tg) (tt : DB) (it1 : IT) (tg1 : Tg) (tt1 : DB) (el : DE) (vs1 : List Nat) (sl : Sl) : Nat → List PyData → Sto → R (List Val)
  | _, [], S => .ok [] S
  | n, d :: ds, S => match setT tg d sl with
    | none => .bad
    | some sl2 => nb (tt sl2 S) fun b S1 => if b = true then nb (it1 sl2 S1) fun es S2 => (lcGo tg1 tt1 el (wipeS sl2 vs1) n es S2).bind fun xs S3 => (lc2Go tg tt it1 tg1 tt1 el vs1 sl (n + xs.length) ds S3).bind fun ys S4 => .ok (xs ++ ys) S4
      else lc2Go tg tt it1 tg1 tt1 el vs1 sl n ds S1
def lc2F (own vs1 : List Nat) (it : IT) (tg : Tg) (tt : DB) (it1 : IT) (tg1 : Tg) (tt1 : DB) (el : DE) : DF := fun sl S => (it sl S).bind fun ds S1 => lc2Go tg tt it1 tg1 tt1 el vs1 (wipeS sl own) 0 ds S1
section
variable {K : PySem.W.Frag} {mg : Str → Option Value} {W : WX} {σ : CxSt} {D : Addr} {P : List Val → Sto → (Nat → Addr) → Hp → Hp → Prop}
theorem Lat.refl {ι : Nat → Addr} {F : Hp} {n : Nat} : Lat ι F n ι F n := ⟨Nat.le_refl _, fun _ _ => rfl, Same.refl _⟩
theorem Stp.lat {ι ι' : Nat → Addr} {F H F' H' : Hp} {n n' : Nat} (s : Stp ι F H n ι' F' H' n') : Lat ι F n ι' F' n' := ⟨s.le, s.ag, s.ff⟩
theorem Lat.trans {ι0 ι1 ι2 : Nat → Addr} {F0 F1 F2 : Hp} {n0 n1 n2 : Nat} (a : Lat ι0 F0 n0 ι1 F1 n1) (b : Lat ι1 F1 n1 ι2 F2 n2) : Lat ι0 F0 n0 ι2 F2 n2 :=
  ⟨Nat.le_trans a.le b.le, fun k hk => (b.ag k (Nat.lt_of_lt_of_le hk a.le)).trans (a.ag k hk), a.ff.trans b.ff⟩
theorem SlR.lat {ι0 ι : Nat → Addr} {F0 F : Hp} {n0 n : Nat} {sl : Sl} (h : SlR K ι0 F0 n0 σ sl) (l : Lat ι0 F0 n0 ι F n) : SlR K ι F n σ sl := fun i x e =>
  let ⟨v, e1, r⟩ := h i x e; ⟨v, e1, r.mono l.le l.ag l.ff⟩
/-- the list at D under way: m is what is still to be reckoned, from the items so far and the store -/
def Cur (K : PySem.W.Frag) (mg : Str → Option Value) (W : WX) (σ : CxSt) (D : Addr) (P : List Val → Sto → (Nat → Addr) → Hp → Hp → Prop) (ι0 : Nat → Addr) (F0 : Hp) (n0 : Nat) (m : List Val → Sto → R (List Val)) (H : Hp) : Prop :=
  ∃ (ι : Nat → Addr) (F G : Hp) (S : Sto) (acc : List V) (ax : List Val), H = upd G D (.lst acc) ∧ G D = none ∧ Rel K ι F G S ∧ Lat ι0 F0 n0 ι F S.length ∧ RVs K ι F S.length acc ax ∧ Aft K mg W σ ι F G S.length (m ax S) P
theorem Cur.lat {ι0 ι1 : Nat → Addr} {F0 F1 : Hp} {n0 n1 : Nat} {m : List Val → Sto → R (List Val)} {H : Hp} (c : Cur K mg W σ D P ι1 F1 n1 m H) (l : Lat ι0 F0 n0 ι1 F1 n1) : Cur K mg W σ D P ι0 F0 n0 m H :=
  let ⟨ι, F, G, S, acc, ax, e, hG, rel, l1, ra, af⟩ := c
  ⟨ι, F, G, S, acc, ax, e, hG, rel, l.trans l1, ra, af⟩
/-- the turns of one clause, whatever comes behind -/
theorem lc_turn {tg : Tg} {tt : DB} {el : DE} {J : It} {items : List PyData} {M : List Val → Sto → R (List Val)} {ι0 : Nat → Addr} {F0 : Hp} {n0 : Nat} {τ : CxSt} {slw : Sl} {vs : List Nat} (hJ : ItOk K F0 J items) (hx : ∀ i ∈ tg.ix, i ∈ vs)
    (hs : SlR K ι0 F0 n0 (L2.wipe τ vs) slw) (hz : slw.length ≤ (L2.wipe τ vs).length) {i : Nat} {H : Hp} (hi : i ≤ items.length)
    (c : Cur K mg W σ D P ι0 F0 n0 (fun ax S => (lcGo tg tt el slw ax.length (items.drop i) S).bind fun xs S' => M (ax ++ xs) S') H) :
    (J.stop i H ∧ Cur K mg W σ D P ι0 F0 n0 M H) ∨ (J.go i H ∧ i < items.length ∧ ∀ x H', J.yld i H x H' → tg.g K x (L2.wipe τ vs) H' fun σ2 H2 => L2.wipe σ2 vs = L2.wipe τ vs ∧ tB K mg W0 tt σ2 H2 fun b H3 =>
      if b = true then tE K mg W0 el σ2 H3 fun y H4 => ∃ acc, H4 D = some (.lst acc) ∧ acc.length < sizeLine ∧ Cur K mg W σ D P ι0 F0 n0 (fun ax S => (lcGo tg tt el slw ax.length (items.drop (i + 1)) S).bind fun xs S' => M (ax ++ xs) S') (upd H4 D (.lst (acc ++ [y])))
      else Cur K mg W σ D P ι0 F0 n0 (fun ax S => (lcGo tg tt el slw ax.length (items.drop (i + 1)) S).bind fun xs S' => M (ax ++ xs) S') H3) := by
  obtain ⟨ι, F, G, S, acc, ax, rfl, hG, rel, la, ra, af⟩ := c
  have relA : Rel K ι F (upd G D (.lst acc)) S := rel.beside hG
  by_cases hlt : i < items.length
  · refine .inr ⟨hJ.go i F _ hlt la.ff relA.sub, hlt, fun x H2 hy => ?_⟩
    obtain ⟨d, F2, ed, g2, dx⟩ := hJ.yld i F _ x H2 hlt la.ff relA.sub hy
    have edr : items.drop i = d :: items.drop (i + 1) := by
      rw [List.drop_eq_getElem_cons hlt]
      rw [List.getElem?_eq_getElem hlt] at ed
      rw [Option.some.inj ed]
    rw [edr] at af
    unfold lcGo at af
    cases es : setT tg d slw with
    | none => rw [es] at af; exact af.elim
    | some sl' =>
      rw [es] at af
      dsimp only at af
      have rel2 : Rel K ι F2 H2 S := relA.grow g2
      have stA : Stp ι F (upd G D (.lst acc)) S.length ι F2 H2 S.length := g2.stp
      have hs2 : SlR K ι F2 S.length (L2.wipe τ vs) slw := (hs.lat la).stp stA
      refine Tg.ok es dx g2.sub hs2 hz fun σ2 h2 l2 l3 w2 => ⟨by rw [w2 vs hx, wipe_wipe], ?_⟩
      have hz2 : sl'.length ≤ σ2.length := by rw [l2, l3]; exact hz
      have ntt : ∃ b S2, tt sl' S = .ok b S2 ∧ Aft K mg W σ ι F G S.length ((if b = true then nb (el sl' S2) fun x S3 => if ax.length < sizeLine then (lcGo tg tt el slw (ax.length + 1) (items.drop (i + 1)) S3).bind fun xs S4 => .ok (x :: xs) S4 else .bad
          else lcGo tg tt el slw ax.length (items.drop (i + 1)) S2).bind fun xs S' => M (ax ++ xs) S') P := by
        cases e : tt sl' S with
        | ok b S2 => rw [e] at af; exact ⟨b, S2, rfl, af⟩
        | er x S2 => rw [e] at af; exact af.elim
        | bad => rw [e] at af; exact af.elim
      obtain ⟨b, S2, eb, af⟩ := ntt
      refine ⟨ι, F2, S, sl', hz2, h2, rel2, ?_⟩
      rw [eb]
      intro ι3 F3 H3 st3 rel3
      have stB := stA.trans st3
      cases b with
      | false =>
        obtain ⟨stH, hDd, f0, nD⟩ := Stp.hide rel hG stB
        refine iteF ⟨ι3, F3, hid H3 D, S2, acc, ax, (upd_hid_self hDd).symm, hid_self, rel3.hide f0 nD hDd, la.trans stH.lat, ra.stp stH, ?_⟩
        exact Aft.stp (by simpa using af) stH
      | true =>
        refine iteT ?_
        rw [if_pos rfl] at af
        have nel : ∃ y S3, el sl' S2 = .ok y S3 ∧ ax.length < sizeLine ∧ Aft K mg W σ ι F G S.length ((lcGo tg tt el slw (ax.length + 1) (items.drop (i + 1)) S3).bind fun xs S' => M (ax ++ y :: xs) S') P := by
          cases e : el sl' S2 with
          | ok y S3 =>
            rw [e] at af
            simp only [DV.nb] at af
            by_cases hsz : ax.length < sizeLine
            · rw [if_pos hsz] at af
              refine ⟨y, S3, rfl, hsz, ?_⟩
              cases e4 : lcGo tg tt el slw (ax.length + 1) (items.drop (i + 1)) S3 with
              | ok xs S4 => rw [e4] at af; exact af
              | er x S4 => rw [e4] at af; exact af
              | bad => rw [e4] at af; exact af.elim
            · rw [if_neg hsz] at af; exact af.elim
          | er x S3 => rw [e] at af; exact af.elim
          | bad => rw [e] at af; exact af.elim
        obtain ⟨y, S3, ey, hsz, af⟩ := nel
        refine ⟨ι3, F3, S2, sl', hz2, h2.stp st3, rel3, ?_⟩
        rw [ey]
        intro ι4 F4 H4 st4 rel4 v rv
        have stC := stB.trans st4
        obtain ⟨stH, hDd, f0, nD⟩ := Stp.hide rel hG stC
        refine ⟨acc, hDd, by rw [ra.length]; exact hsz, ι4, F4, hid H4 D, S3, acc ++ [v], ax ++ [y], upd_hid.symm, hid_self, rel4.hide f0 nD hDd, la.trans stH.lat, (ra.stp stH).append (.cons rv .nil), ?_⟩
        have e5 : (ax ++ [y]).length = ax.length + 1 := by simp
        refine Aft.stp ?_ stH
        have e6 : ∀ xs, ax ++ [y] ++ xs = ax ++ y :: xs := fun xs => by simp
        simp only [e5, e6]
        exact af
  · have hie : i = items.length := by omega
    subst hie
    refine .inl ⟨hJ.stop _ F _ (Nat.le_refl _) la.ff relA.sub, ι, F, G, S, acc, ax, rfl, hG, rel, la, ra, ?_⟩
    rw [List.drop_length] at af
    simp only [lcGo, R.bind, List.append_nil] at af
    exact af
theorem lc2_ok {own vs1 : List Nat} {tg tg1 : Tg} {tt tt1 : DB} {el : DE} {it it1 : IT} (hx : ∀ i ∈ tg.ix, i ∈ own) (hx1 : ∀ i ∈ tg1.ix, i ∈ vs1) {H : Hp} {Q : VK} (h : tF K mg W (lc2F own vs1 it tg tt it1 tg1 tt1 el) σ H Q) :
    tLc2 (tI K mg W it) (tg.g K) (tB K mg W0 tt) (tI K mg W0 it1) (tg1.g K) (tB K mg W0 tt1) (tE K mg W0 el) own vs1 σ H Q := by
  obtain ⟨ι, F, S, sl, hz, hs, rel, q⟩ := h
  refine ⟨ι, F, S, sl, hz, hs, rel, Aft.imp (Aft.bind q) fun items S1 ι1 F1 H1 ⟨s1, r1, h1⟩ J hJ D hD => ?_⟩
  have hzw : (wipeS sl own).length ≤ (L2.wipe σ own).length := by rw [wipeS_length, wipe_length]; exact hz
  have hsw : SlR K ι1 F1 S1.length (L2.wipe σ own) (wipeS sl own) := (hs.stp s1).wipe own
  let P : List Val → Sto → (Nat → Addr) → Hp → Hp → Prop := fun xs S' ι' F' H' => ∀ p us, H' p = none → RVs K ι' F' S'.length us xs → Q (.ref p) (upd H' p (.lst us))
  let go : Nat → List Val → Sto → R (List Val) := fun i ax S => (lc2Go tg tt it1 tg1 tt1 el vs1 (wipeS sl own) ax.length (items.drop i) S).bind fun xs S' => .ok (ax ++ xs) S'
  refine ⟨fun i m H => m = items.length - i ∧ i ≤ items.length ∧ Cur K mg W σ D P ι1 F1 S1.length (go i) H, ⟨items.length, rfl, Nat.zero_le _, ι1, F1, H1, S1, [], [], rfl, hD, r1, .refl, .nil, ?_⟩, ?_⟩
  · show Aft K mg W σ ι1 F1 H1 S1.length ((lc2Go tg tt it1 tg1 tt1 el vs1 (wipeS sl own) 0 items S1).bind fun xs S' => .ok ([] ++ xs) S') P
    cases e : lc2Go tg tt it1 tg1 tt1 el vs1 (wipeS sl own) 0 items S1 with
    | ok xs S' => rw [e] at h1; exact h1
    | er x S' => rw [e] at h1; exact h1
    | bad => rw [e] at h1; exact h1.elim
  · rintro i m _ ⟨rfl, hi, ι, F, G, S, acc, ax, rfl, hG, rel, la, ra, af⟩
    have relA : Rel K ι F (upd G D (.lst acc)) S := rel.beside hG
    by_cases hlt : i < items.length
    · refine .inr ⟨hJ.go i F _ hlt la.ff relA.sub, fun H => Cur K mg W σ D P ι1 F1 S1.length (go (i + 1)) H, fun H' c => ⟨items.length - (i + 1), by omega, rfl, hlt, c⟩, fun x H2 hy => ?_⟩
      obtain ⟨d, F2, ed, g2, dx⟩ := hJ.yld i F _ x H2 hlt la.ff relA.sub hy
      have edr : items.drop i = d :: items.drop (i + 1) := by
        rw [List.drop_eq_getElem_cons hlt]
        rw [List.getElem?_eq_getElem hlt] at ed
        rw [Option.some.inj ed]
      have af : Aft K mg W σ ι F G S.length ((lc2Go tg tt it1 tg1 tt1 el vs1 (wipeS sl own) ax.length (items.drop i) S).bind fun xs S' => .ok (ax ++ xs) S') P := af
      rw [edr] at af
      unfold lc2Go at af
      cases es : setT tg d (wipeS sl own) with
      | none => rw [es] at af; exact af.elim
      | some sl' =>
        rw [es] at af
        dsimp only at af
        have rel2 : Rel K ι F2 H2 S := relA.grow g2
        have stA : Stp ι F (upd G D (.lst acc)) S.length ι F2 H2 S.length := g2.stp
        have hs2 : SlR K ι F2 S.length (L2.wipe σ own) (wipeS sl own) := (hsw.lat la).stp stA
        refine Tg.ok es dx g2.sub hs2 hzw fun σ2 h2 l2 l3 w2 => ⟨by rw [w2 own hx, wipe_wipe], ?_⟩
        have hz2 : sl'.length ≤ σ2.length := by rw [l2, l3]; exact hzw
        have ntt : ∃ b S2, tt sl' S = .ok b S2 ∧ Aft K mg W σ ι F G S.length ((if b = true then nb (it1 sl' S2) fun es S2 => (lcGo tg1 tt1 el (wipeS sl' vs1) ax.length es S2).bind fun xs S3 => (lc2Go tg tt it1 tg1 tt1 el vs1 (wipeS sl own) (ax.length + xs.length) (items.drop (i + 1)) S3).bind fun ys S4 => .ok (xs ++ ys) S4
            else lc2Go tg tt it1 tg1 tt1 el vs1 (wipeS sl own) ax.length (items.drop (i + 1)) S2).bind fun xs S' => .ok (ax ++ xs) S') P := by
          cases e : tt sl' S with
          | ok b S2 => rw [e] at af; exact ⟨b, S2, rfl, af⟩
          | er x S2 => rw [e] at af; exact af.elim
          | bad => rw [e] at af; exact af.elim
        obtain ⟨b, S2, eb, af⟩ := ntt
        refine ⟨ι, F2, S, sl', hz2, h2, rel2, ?_⟩
        rw [eb]
        intro ι3 F3 H3 st3 rel3
        have stB := stA.trans st3
        cases b with
        | false =>
          obtain ⟨stH, hDd, f0, nD⟩ := Stp.hide rel hG stB
          refine iteF ⟨ι3, F3, hid H3 D, S2, acc, ax, (upd_hid_self hDd).symm, hid_self, rel3.hide f0 nD hDd, la.trans stH.lat, ra.stp stH, ?_⟩
          exact Aft.stp (by simpa using af) stH
        | true =>
          refine iteT ?_
          rw [if_pos rfl] at af
          have nit : ∃ es S3, it1 sl' S2 = .ok es S3 ∧ Aft K mg W σ ι F G S.length ((lcGo tg1 tt1 el (wipeS sl' vs1) ax.length es S3).bind fun xs S' => go (i + 1) (ax ++ xs) S') P := by
            cases e : it1 sl' S2 with
            | ok es S3 =>
              rw [e] at af
              simp only [DV.nb] at af
              refine ⟨es, S3, rfl, ?_⟩
              cases e4 : lcGo tg1 tt1 el (wipeS sl' vs1) ax.length es S3 with
              | ok xs S4 =>
                rw [e4] at af
                show Aft K mg W σ ι F G S.length ((lc2Go tg tt it1 tg1 tt1 el vs1 (wipeS sl own) (ax ++ xs).length (items.drop (i + 1)) S4).bind fun ys S' => .ok ((ax ++ xs) ++ ys) S') P
                rw [List.length_append]
                simp only [R.bind] at af
                cases e5 : lc2Go tg tt it1 tg1 tt1 el vs1 (wipeS sl own) (ax.length + xs.length) (items.drop (i + 1)) S4 with
                | ok ys S5 =>
                  rw [e5] at af
                  simp only [R.bind, List.append_assoc]
                  exact af
                | er x S5 => rw [e5] at af; exact af
                | bad => rw [e5] at af; exact af.elim
              | er x S4 => rw [e4] at af; exact af
              | bad => rw [e4] at af; exact af.elim
            | er x S3 => rw [e] at af; exact af.elim
            | bad => rw [e] at af; exact af.elim
          obtain ⟨es1, S3, ei, af⟩ := nit
          refine ⟨ι3, F3, S2, sl', hz2, h2.stp st3, rel3, ?_⟩
          rw [ei]
          intro ι4 F4 H4 st4 rel4 J1 hJ1
          have stC := stB.trans st4
          obtain ⟨stH, hDd, f0, nD⟩ := Stp.hide rel hG stC
          have lt4 : Lat ι1 F1 S1.length ι4 F4 S3.length := la.trans stH.lat
          have hs4 : SlR K ι4 F4 S3.length (L2.wipe σ2 vs1) (wipeS sl' vs1) := ((h2.stp st3).stp st4).wipe vs1
          have hz4 : (wipeS sl' vs1).length ≤ (L2.wipe σ2 vs1).length := by rw [wipeS_length, wipe_length]; exact hz2
          refine ⟨fun j k H => k = es1.length - j ∧ j ≤ es1.length ∧ Cur K mg W σ D P ι4 F4 S3.length (fun ax S => (lcGo tg1 tt1 el (wipeS sl' vs1) ax.length (es1.drop j) S).bind fun xs S' => go (i + 1) (ax ++ xs) S') H,
            ⟨es1.length, rfl, Nat.zero_le _, ι4, F4, hid H4 D, S3, acc, ax, (upd_hid_self hDd).symm, hid_self, rel4.hide f0 nD hDd, .refl, ra.stp stH, Aft.stp af stH⟩, ?_⟩
          rintro j k H ⟨rfl, hj, c⟩
          rcases lc_turn hJ1 hx1 hs4 hz4 hj c with ⟨hst, c⟩ | ⟨hgo, hjl, turn⟩
          · exact .inl ⟨hst, c.lat lt4⟩
          · exact .inr ⟨hgo, fun H => Cur K mg W σ D P ι4 F4 S3.length (fun ax S => (lcGo tg1 tt1 el (wipeS sl' vs1) ax.length (es1.drop (j + 1)) S).bind fun xs S' => go (i + 1) (ax ++ xs) S') H, fun H' c => ⟨es1.length - (j + 1), by omega, rfl, hjl, c⟩, turn⟩
    · have hie : i = items.length := by omega
      subst hie
      refine .inl ⟨hJ.stop _ F _ (Nat.le_refl _) la.ff relA.sub, ?_⟩
      have af : Aft K mg W σ ι F G S.length ((lc2Go tg tt it1 tg1 tt1 el vs1 (wipeS sl own) ax.length (items.drop items.length) S).bind fun xs S' => .ok (ax ++ xs) S') P := af
      rw [List.drop_length] at af
      simp only [lc2Go, R.bind, List.append_nil] at af
      exact af ι F G .refl rel D acc hG ra
end
section
variable {X : Cx} {W : WX} {pos : Pos}
theorem f_lc2 {elt tg iter tg1 iter1 : Expr} {ifs ifs1 : List Expr} {scope : Scope} {own : List (Str × Nat)} {vs1 : List Nat} {it it1 : IT} {t t1 : Tg} {tt tt1 : DB} {el : DE} (hc : X.calm = true) (hN : X.N.Nodup) (hi : QI X W tg iter it) (ok : BlkOk X.N X.env.scope scope own)
    (hv : ∀ i ∈ vs1, i ∈ own.map (·.2)) (hx : ∀ i ∈ t.ix, i ∈ own.map (·.2)) (hx1 : ∀ i ∈ t1.ix, i ∈ vs1)
    (hg : InBlk X scope fun Y => PG Y tg (t.g X.K)) (ht : InBlk X scope fun Y => QTs Y W0 ifs tt) (hi1 : InBlk X scope fun Y => QI Y W0 tg1 iter1 it1) (hg1 : InBlk X scope fun Y => PG Y tg1 (t1.g X.K)) (ht1 : InBlk X scope fun Y => QTs Y W0 ifs1 tt1)
    (he : InBlk X scope fun Y => QE Y W0 elt el) (hs : ∀ x, foldedSetIterable iter X.env x = pure x := by intro _; rfl) (hs1 : ∀ env x, foldedSetIterable iter1 env x = pure x := by intro _ _; rfl) :
    QF X W (.ListComp elt [⟨tg, iter, ifs, 0⟩, ⟨tg1, iter1, ifs1, 0⟩] scope pos) (lc2F (own.map (·.2)) vs1 it t tt it1 t1 tt1 el) :=
  PE.imp (pe_lc2 (tt := tB X.K X.mg W0 tt) (te := tE X.K X.mg W0 el) (wi1 := tI X.K X.mg W0 it1) (tt1 := tB X.K X.mg W0 tt1) hc hN hi ok hv hg ht hi1 hg1 ht1 he hs hs1) fun σ H Q q => lc2_ok hx hx1 q

/-! ### given to a name on the same line -/
theorem own_imp {K : PySem.W.Frag} {mg : Str → Option Value} {W : WX} {g : DF} {σ : CxSt} {H : Hp} {Q : VK} (q : tE K mg W (ownE g) σ H Q) : tF K mg W g σ H Q := by
  obtain ⟨ι, F, S, sl, hz, hs, rel, q⟩ := q
  refine ⟨ι, F, S, sl, hz, hs, rel, Aft.imp (Aft.bind q) fun xs S1 ι1 F1 H1 ⟨s1, r1, h1⟩ p us hp rus => ?_⟩
  obtain ⟨ι', s', r', at_⟩ := own_new r1 hp rus
  exact h1 ι' _ _ s' r' _ ⟨by simp, by rw [at_]⟩
theorem frz_imp {K : PySem.W.Frag} {mg : Str → Option Value} {W : WX} {g : DF} {σ : CxSt} {H : Hp} {Q : VK} (q : tE K mg W (frzE g) σ H Q) : tF K mg W g σ H Q := by
  obtain ⟨ι, F, S, sl, hz, hs, rel, q⟩ := q
  refine ⟨ι, F, S, sl, hz, hs, rel, Aft.imp (Aft.bind q) fun xs S1 ι1 F1 H1 ⟨s1, r1, h1⟩ p us hp rus => ?_⟩
  split at h1
  · rename_i ds S2 e2
    obtain ⟨F2, g2, d2⟩ := frzL_ok e2 r1 rus
    have g := Grow.new (o := .lst us) g2.2.2.sub hp
    exact h1 ι1 _ _ (g2.2.1.trans g.stp) (g2.2.2.grow g) _ (.lst upd_same (DqAll.mono g.ff _ _ d2))
  · exact h1.elim
/-- either way of keeping a new list -/
inductive Keeps : (DF → DE) → Prop
  | own : Keeps ownE
  | frz : Keeps frzE
theorem Keeps.imp {kp : DF → DE} (k : Keeps kp) {K : PySem.W.Frag} {mg : Str → Option Value} {W : WX} {g : DF} {σ : CxSt} {H : Hp} {Q : VK} (q : tE K mg W (kp g) σ H Q) : tF K mg W g σ H Q := by
  cases k with
  | own => exact own_imp q
  | frz => exact frz_imp q
theorem s_setLc {kp : DF → DE} {i : Nat} {y : Str} {py spos : Pos} {elt tg iter : Expr} {ifs : List Expr} {scope : Scope} {own : List (Str × Nat)} {it : IT} {t : Tg} {tt : DB} {el : DE} (k : Keeps kp) (hc : X.calm = true) (hN : X.N.Nodup) (hy : X.N[i]? = some y) (hyl : X.env.scope.names.lookup y = some .local)
    (hsw : swapsWith (.ListComp elt [⟨tg, iter, ifs, 0⟩] scope pos) (some (.Name y py)) spos.line X.env = pure true) (hi : QI X W tg iter it) (ok : BlkOk X.N X.env.scope scope own) (hx : ∀ i ∈ t.ix, i ∈ own.map (·.2))
    (hg : InBlk X scope fun Y => PG Y tg (t.g X.K)) (ht : InBlk X scope fun Y => QTs Y W0 ifs tt) (he : InBlk X scope fun Y => QE Y W0 elt el) (hs : ∀ x, foldedSetIterable iter X.env x = pure x := by intro _; rfl) :
    QS X W (.Assign [.Name y py] (.ListComp elt [⟨tg, iter, ifs, 0⟩] scope pos) spos) (asgS i (kp (lcF (own.map (·.2)) it t tt el))) :=
  PS.imp (ps_setLc (tt := tB X.K X.mg W0 tt) (te := tE X.K X.mg W0 el) hc hN hy hyl hsw hi ok hg ht he hs) fun D σ H q => lc_ok hx (k.imp (asg_ok q))
theorem s_setLc2 {kp : DF → DE} {i : Nat} {y : Str} {py spos : Pos} {elt tg iter tg1 iter1 : Expr} {ifs ifs1 : List Expr} {scope : Scope} {own : List (Str × Nat)} {vs1 : List Nat} {it it1 : IT} {t t1 : Tg} {tt tt1 : DB} {el : DE} (k : Keeps kp) (hc : X.calm = true) (hN : X.N.Nodup) (hy : X.N[i]? = some y) (hyl : X.env.scope.names.lookup y = some .local)
    (hsw : swapsWith (.ListComp elt [⟨tg, iter, ifs, 0⟩, ⟨tg1, iter1, ifs1, 0⟩] scope pos) (some (.Name y py)) spos.line X.env = pure true) (hi : QI X W tg iter it) (ok : BlkOk X.N X.env.scope scope own)
    (hv : ∀ i ∈ vs1, i ∈ own.map (·.2)) (hx : ∀ i ∈ t.ix, i ∈ own.map (·.2)) (hx1 : ∀ i ∈ t1.ix, i ∈ vs1)
    (hg : InBlk X scope fun Y => PG Y tg (t.g X.K)) (ht : InBlk X scope fun Y => QTs Y W0 ifs tt) (hi1 : InBlk X scope fun Y => QI Y W0 tg1 iter1 it1) (hg1 : InBlk X scope fun Y => PG Y tg1 (t1.g X.K)) (ht1 : InBlk X scope fun Y => QTs Y W0 ifs1 tt1)
    (he : InBlk X scope fun Y => QE Y W0 elt el) (hs : ∀ x, foldedSetIterable iter X.env x = pure x := by intro _; rfl) (hs1 : ∀ env x, foldedSetIterable iter1 env x = pure x := by intro _ _; rfl) :
    QS X W (.Assign [.Name y py] (.ListComp elt [⟨tg, iter, ifs, 0⟩, ⟨tg1, iter1, ifs1, 0⟩] scope pos) spos) (asgS i (kp (lc2F (own.map (·.2)) vs1 it t tt it1 t1 tt1 el))) :=
  PS.imp (ps_setLc2 (tt := tB X.K X.mg W0 tt) (te := tE X.K X.mg W0 el) (wi1 := tI X.K X.mg W0 it1) (tt1 := tB X.K X.mg W0 tt1) hc hN hy hyl hsw hi ok hv hg ht hi1 hg1 ht1 he hs hs1) fun D σ H q => lc2_ok hx hx1 (k.imp (asg_ok q))
end
end DV
set_option Elab.async false
set_option linter.all false
set_option maxRecDepth 100000
namespace DV
open PySem PySem.Spec PyProof.Rows L2
/-- a def of the top that stands under its own name -/
abbrev FnD (K : PySem.W.Frag) (x : Str) (st : Stmt) (f : Addr) (fd : FuncData) : Prop := FunD K x x (defArgs st) (defBody st) (defScope st) [] [] f fd
/-- the script as data -/
def scrD (ns : List Int) : PyData := .dict [(.none, .list (ns.map .int))]
theorem law_sp {K : PySem.W.Frag} {mg : Str → Option Value} {Fn : FnP} {H : Hp} {a : Addr} {ns : List Int} (hS : SqL K H a (ns.map V.int)) (e : Fn [scrD ns] = .ok (.bool true)) :
    spP K mg 1 Fn [.ref a] H (fun v _ => v = .bl true) fun _ _ _ => False := by
  refine ⟨H, [scrD ns], rfl, Same.refl _, .cons (.scr hS (DqAll.of_ints ns)) .nil, ?_⟩
  rw [e]
  intro v H' F' _ dv
  cases dv
  rfl
theorem cx_law {P : Program} {w : World} {H : Hp} {s : Shared} {e : Value} {s' : Shared} (h : L2N.CX P w [] H s (fun _ _ _ => False) e s') : False := by
  obtain ⟨_, _, _, _, _, _, _, _, _, _, _, _, z⟩ := h
  exact z
theorem walk_law {l : PySem.W.OpenLaw} {n k : Nat} {q : Program} {loose : List Str} {XP : (Str → Option Value) → Heap → Prop} {YP : World → Heap → Prop} {d : DefRec} {x : Str}
    (hn : l.most = some n) (hn2 : n ≤ sizeLine) (hdf : d.params.defaults = []) (hr : Room k callerA)
    (F : ∀ (w : World) (mg : Str → Option Value) (fa : Addr) (h : Heap), YP w h → h.Ns mainGlobals mg → mg d.name = some (.ref fa) → ∃ (K : PySem.W.Frag) (fd : FuncData) (sp : Sp), K.In h ∧ (∀ (s : Shared) (u : Value), BindsTo s fd ⟨[u], []⟩ [(x, u)]) ∧
        (∀ (H : Hp) (a : Addr) (ns : List Int), ns.length ≤ n → SqL K H a (ns.map V.int) → sp [.ref a] H (fun v _ => v = .bl true) fun _ _ _ => False) ∧
        ∀ base : Heap, K.In base → base.Ns mainGlobals mg → FnOk l.prog w K mg base (L2N.CX l.prog w) k fa fd [x] sp) :
    PySem.W.WalkO q loose XP YP l.row.toRowW d [] (fun f vs => PySem.call f vs) := by
  refine Att.attach_call hn hdf fun w s₀ s₁ mg mb fa o pm cd doc a vs ns G Y ho hd hcd hmg hobj hints hlen hg => ?_
  obtain ⟨K, fd, sp, KX, hb, hsp, hF⟩ := F w mg fa _ Y G.T.g hmg
  exact law_call KX G.T.g G.T.b G.T.builtins G.T.nolimit hg hobj hints (Nat.le_trans hlen hn2) hr hF hb (fun H _ hS => hsp H a ns hlen hS) fun H e s' => cx_law
end DV
set_option Elab.async false
set_option linter.all false
set_option maxRecDepth 100000
namespace DV
open PySem PySem.Spec PyProof.Rows L2
/-- a def that may be called by its name -/
inductive CalP (P : Program) (w : World) (K : PySem.W.Frag) (mg : Str → Option Value) (base : Heap) (x : Str) (k : Nat) (ps : List Str) (Fn : FnP) : Prop
  | mk {f : Addr} {fd : FuncData} (ok : FnOk P w K mg base (L2N.CX P w) k f fd ps (spP K mg ps.length Fn)) (hm : mg x = some (.ref f)) (kp : PySem.W.keepIn K (.ref f) = true) (bd : Binds K fd ps []) (ln : ∀ args x, (Fn args = .ok x ∨ ∃ e, Fn args = .er e) → args.length = ps.length)
inductive CalR (P : Program) (w : World) (K : PySem.W.Frag) (mg : Str → Option Value) (base : Heap) (x : Str) (k : Nat) (ps : List Str) (Fn : FnR) : Prop
  | mk {f : Addr} {fd : FuncData} (ok : FnOk P w K mg base (L2N.CX P w) k f fd ps (spR K ps.length Fn)) (hm : mg x = some (.ref f)) (kp : PySem.W.keepIn K (.ref f) = true) (bd : Binds K fd ps []) (ln : ∀ args row x row', Fn args row = .ok x row' → args.length + 1 = ps.length)
structure ExcC (K : PySem.W.Frag) (mg : Str → Option Value) (x : Str) : Prop where
  ex : ∃ C, mg x = some (.ref C) ∧ PySem.W.excIn K C He.veBase "ValueError.__new__" = true ∧ PySem.W.keepIn K (.ref C) = true ∧ PySem.W.subIn K (.ref C) (.type "BaseException") = some true ∧ PySem.W.typeIn K (.ref C) = some (.type "type")
def IsI (mg : Str → Option Value) (x : Str) (i : Int) : Prop := ∃ t, mg x = some (.int i t)
section
variable {X : Cx} {W : WX} {a b c e : Expr} {es : List Expr} {fa fb fc f fr : DE} {la : DL} {ba : DB} {pos p p2 : Pos} {k : Nat} {x : Str} {ps : List Str}
theorem Room.u65 (hr : Room k X.A) : X.A.units + 65 < cLine := by have := hr.un; omega
theorem v_ (i : Nat) {x : Str} {pos : Pos} (hN : X.N[i]? = some x := by rfl) (hv : Vis X.env.scope x := by first | exact Or.inl rfl | exact Or.inr (Or.inl rfl) | exact Or.inr (Or.inr rfl)) (hd : (x == ("__debug__" : Str)) = false := by decide)
    (hcd : (x == ("__classdict__" : Str)) = false := by decide) : QE X W (.Name x pos) (var i) := q_var (pe_var hN hv hd hcd)
theorem c_int {i : Int} (h : IsI X.mg x i) (hg : Gl X x := by rfl) (hd : (x == ("__debug__" : Str)) = false := by decide) : QE X W (.Name x pos) (cst (.int i)) := by
  obtain ⟨t, h⟩ := h
  exact q_cst (pe_glob hg h (show RelV (.int i) (.int i t) from ⟨t, rfl⟩) hd) fun _ => .int _
theorem q_add (ha : QE X W a fa) (hb : QE X W b fb) : QE X W (.BinOp a .Add b pos) (bin addD fa fb) := q_bin op_addA d_add ha hb
theorem q_sub (ha : QE X W a fa) (hb : QE X W b fb) : QE X W (.BinOp a .Sub b pos) (bin subD fa fb) := q_bin op_sub d_sub ha hb
theorem q_mul (ha : QE X W a fa) (hb : QE X W b fb) : QE X W (.BinOp a .Mult b pos) (bin mulD fa fb) := q_bin op_mulA d_mul ha hb
theorem q_div (ha : QE X W a fa) (hb : QE X W b fb) : QE X W (.BinOp a .FloorDiv b pos) (bin divD fa fb) := q_bin op_fdivW d_div ha hb
theorem q_mod (ha : QE X W a fa) (hb : QE X W b fb) : QE X W (.BinOp a .Mod b pos) (bin modD fa fb) := q_bin op_mod d_mod ha hb
theorem q_pow (ha : QE X W a fa) (hb : QE X W b fb) : QE X W (.BinOp a .Pow b pos) (bin powD fa fb) := q_bin op_pow d_pow ha hb
theorem q_neg (ha : QE X W a fa) : QE X W (.UnaryOp .USub a pos) (un negD fa) := q_un un_neg d_neg ha
def ltI : PyData → PyData → Option PyData := cmpI fun i j => decide (i < j)
def leI : PyData → PyData → Option PyData := cmpI fun i j => decide (i ≤ j)
def gtI : PyData → PyData → Option PyData := cmpI fun i j => decide (j < i)
def geI : PyData → PyData → Option PyData := cmpI fun i j => decide (j ≤ i)
/-- an operator of comparison with its function of data -/
structure CmpR (X : Cx) (op : CmpOp) (g : PyData → PyData → Option PyData) : Prop where
  ex : ∃ r, OpR X (compareOp op) r ∧ OpD X.K r g
theorem cEq (hr : Room k X.A) : CmpR X .Eq eqD := ⟨_, op_eqD hr.units, d_eq⟩
theorem cNe (hr : Room k X.A) : CmpR X .NotEq neD := ⟨_, op_neD hr.units, d_ne⟩
theorem cLt : CmpR X .Lt ltI := ⟨_, op_lt, d_cmp⟩
theorem cLe : CmpR X .LtE leI := ⟨_, op_le, d_cmp⟩
theorem cGt : CmpR X .Gt gtI := ⟨_, op_gt, d_cmp⟩
theorem cGe : CmpR X .GtE geI := ⟨_, op_ge, d_cmp⟩
theorem cIs : CmpR X .Is isN := ⟨_, op_isA, d_is⟩
theorem cIsNot : CmpR X .IsNot notN := ⟨_, op_notA, d_isnot⟩
theorem cIn (hr : Room k X.A) : CmpR X .In inD := ⟨_, op_inA (Room.u65 hr), d_in⟩
theorem cNotIn (hr : Room k X.A) : CmpR X .NotIn notInD := ⟨_, op_notInA (Room.u65 hr), d_notin⟩
theorem q_c {op : CmpOp} {g : PyData → PyData → Option PyData} (r : CmpR X op g) (ha : QE X W a fa) (hb : QE X W b fb) (hm : behindInMarks op b = false := by first | exact nomark _ | rfl) : QE X W (.Compare a [op] [b] pos) (bin g fa fb) :=
  let ⟨_, ho, hr⟩ := r.ex; q_cmp ho hr ha hb hm
theorem t_c {op : CmpOp} {g : PyData → PyData → Option PyData} (r : CmpR X op g) (ha : QE X W a fa) (hb : QE X W b fb) (hm : behindInMarks op b = false := by first | exact nomark _ | rfl) : QT X W (.Compare a [op] [b] pos) (asB (bin g fa fb)) :=
  let ⟨_, ho, hr⟩ := r.ex; t_cmp ho hr ha hb hm
theorem q_cc {op op' : CmpOp} {g g' : PyData → PyData → Option PyData} (r : CmpR X op g) (r' : CmpR X op' g') (ha : QE X W a fa) (hb : QE X W b fb) (hc : QE X W c fc) (hm : lastMarks [op, op'] [b, c] = false := by with_unfolding_all rfl) : QE X W (.Compare a [op, op'] [b, c] pos) (chain g g' fa fb fc) :=
  let ⟨_, ho, hr⟩ := r.ex; let ⟨_, ho', hr'⟩ := r'.ex; q_chain ho ho' hr hr' ha hb hc hm
theorem t_cc {op op' : CmpOp} {g g' : PyData → PyData → Option PyData} (r : CmpR X op g) (r' : CmpR X op' g') (ha : QE X W a fa) (hb : QE X W b fb) (hc : QE X W c fc) (hm : lastMarks [op, op'] [b, c] = false := by with_unfolding_all rfl) : QT X W (.Compare a [op, op'] [b, c] pos) (asB (chain g g' fa fb fc)) :=
  let ⟨_, ho, hr⟩ := r.ex; let ⟨_, ho', hr'⟩ := r'.ex; t_chain ho ho' hr hr' ha hb hc hm
/-- built-ins -/
structure BltR (X : Cx) (f : Value) (g : List PyData → Option PyData) : Prop where
  ex : ∃ r, CallR X f r ∧ CaD X.K r g
theorem bLen : BltR X (.builtin "len") lenD := ⟨_, call_lenA, d_len⟩
theorem bAbs : BltR X (.builtin "abs") absD := ⟨_, call_abs, d_abs⟩
theorem bMax2 (hc : X.calm = true) : BltR X (.builtin "max") maxD2 := ⟨_, call_max2 hc, d_max2⟩
theorem bMin2 (hc : X.calm = true) : BltR X (.builtin "min") minD2 := ⟨_, call_min2 hc, d_min2⟩
theorem bAll (hc : X.calm = true) : BltR X (.builtin "all") allBD := ⟨_, cr_all hc, d_all⟩
theorem bAny (hc : X.calm = true) : BltR X (.builtin "any") anyBD := ⟨_, cr_any hc, d_any⟩
theorem bSum (hc : X.calm = true) : BltR X (.builtin "sum") sumD := ⟨_, cr_sum hc, d_sum⟩
theorem bInt : BltR X (.type "int") intD := ⟨_, call_int1, d_int1⟩
theorem bTuple : BltR X (.type "tuple") tupD := ⟨_, call_tupleF, d_tuple⟩
theorem bStr : BltR X (.type "str") strD := ⟨_, call_str_int, d_str⟩
theorem q_b {id : String} {g : List PyData → Option PyData} (r : BltR X (.builtin id) g) (hm : X.mg x = none) (hv : bootBuiltins x = some (.builtin id)) (ha : QA X W (e :: es) la) (hg : Gl X x := by rfl) (hn : x ≠ "__name__" := by decide) (hdb : (x == ("__debug__" : Str)) = false := by decide)
    (hs : starEach (e :: es) X.env = (false, eval e X.env) :: starEach es X.env := by rfl) (hpl : (backTo pos (starEach es X.env)).any (·.1) = false := by rfl) : QE X W (.Call (.Name x p) (e :: es) [] pos) (blt g la) :=
  let ⟨_, ho, hr⟩ := r.ex; q_blt hr (pe_callB ho hg hm hv ha hn hdb hs hpl)
theorem q_bt {T : String} {g : List PyData → Option PyData} (r : BltR X (.type T) g) (hm : X.mg x = none) (hv : bootBuiltins x = some (.type T)) (ha : QA X W (e :: es) la) (hg : Gl X x := by rfl) (hn : x ≠ "__name__" := by decide) (hdb : (x == ("__debug__" : Str)) = false := by decide)
    (hs : starEach (e :: es) X.env = (false, eval e X.env) :: starEach es X.env := by rfl) (hpl : (backTo pos (starEach es X.env)).any (·.1) = false := by rfl) : QE X W (.Call (.Name x p) (e :: es) [] pos) (blt g la) :=
  let ⟨_, ho, hr⟩ := r.ex; q_blt hr (pe_callTy ho hg hm hv ha hn hdb hs hpl)
/-- defs -/
theorem q_p {Fn : FnP} {j : Nat} (G : CalP X.prog X.w X.K X.mg X.base x k ps Fn) (hr : Room j X.A) (hj : k ≤ j) (tk : L2N.Takes X W) (ha : QA X W (e :: es) la) (hg : Gl X x := by rfl) (hdb : (x == ("__debug__" : Str)) = false := by decide)
    (he : starEach (e :: es) X.env = (false, eval e X.env) :: starEach es X.env := by rfl) (hpl : (backTo pos (starEach es X.env)).any (·.1) = false := by rfl) : QE X W (.Call (.Name x p) (e :: es) [] pos) (callP Fn la) := by
  obtain ⟨ok, hm, kp, bd, ln⟩ := G
  exact q_callP ok (hr.mono hj) hg hm kp bd tk ln ha hdb he hpl
theorem q_r {Fn : FnR} {j : Nat} (G : CalR X.prog X.w X.K X.mg X.base x k ps Fn) (hr : Room j X.A) (hj : k ≤ j) (tk : L2N.Takes X W) (h0 : QE X W e fr) (ha : QA X W es la) (hg : Gl X x := by rfl) (hdb : (x == ("__debug__" : Str)) = false := by decide)
    (he : starEach (e :: es) X.env = (false, eval e X.env) :: starEach es X.env := by rfl) (hpl : (backTo pos (starEach es X.env)).any (·.1) = false := by rfl) : QE X W (.Call (.Name x p) (e :: es) [] pos) (callR Fn fr la) := by
  obtain ⟨ok, hm, kp, bd, ln⟩ := G
  exact q_callR ok (hr.mono hj) hg hm kp bd tk ln h0 ha hdb he hpl
/-- raise X() -/
theorem s_ra (hc : X.calm = true) (tk : L2N.Takes X W) (E : ExcC X.K X.mg x) (hg : Gl X x := by rfl) (hdb : (x == ("__debug__" : Str)) = false := by decide) : QS X W (.Raise (some (.Call (.Name x p) [] [] p2)) none pos) (raS x) := by
  obtain ⟨C, g, q, kC, h1, h2⟩ := E.ex
  exact PS.imp (L2N.ps_raise hc tk (pmk_own0 PySem.F.excBase_ValueError q g kC (raises_own h1 h2) hg hdb)) fun D σ H ⟨ι, S, S', sl, hz, hs, rel, q⟩ => q ι S H σ _ _ .refl rel hz hs ⟨⟨C, rfl, g⟩, trivial⟩
/-- isinstance -/
theorem q_is {c : String} {y : Str} {py : Pos} (hi : X.mg "isinstance" = none) (hm : X.mg y = none) (hv : bootBuiltins y = some (.type c)) (ha : QE X W a fa) (hg : Gl X "isinstance" := by rfl) (hgy : Gl X y := by rfl) (hn : y ≠ "__name__" := by decide) (hdb : (y == ("__debug__" : Str)) = false := by decide)
    (hs : starEach [a, .Name y py] X.env = (false, eval a X.env) :: starEach [.Name y py] X.env := by rfl) (hpl : (backTo pos (starEach [.Name y py] X.env)).any (·.1) = false := by rfl) (hs2 : starEach [Expr.Name y py] X.env = (false, eval (.Name y py) X.env) :: starEach [] X.env := by rfl) :
    QE X W (.Call (.Name "isinstance" p) [a, .Name y py] [] pos) (isiE c fa) :=
  q_isi (r := tE X.K X.mg W fa) (pe_callB call_isi hg hi PyProof.Rows.boot_isinstance (pa_cons ha (pa_cons (pe_bltn hgy hm hv (show RelV (.ty c) (.type c) from rfl) hn hdb) pa_nil hs2) hs) (by decide) (by decide) hs hpl)
theorem q_is2 {c c2 : String} {y y2 : Str} {py py2 pt : Pos} {kt : Nat} (hi : X.mg "isinstance" = none) (hm : X.mg y = none) (hv : bootBuiltins y = some (.type c)) (hm2 : X.mg y2 = none) (hv2 : bootBuiltins y2 = some (.type c2)) (ha : QE X W a fa) (hg : Gl X "isinstance" := by rfl) (hgy : Gl X y := by rfl) (hgy2 : Gl X y2 := by rfl)
    (hn : y ≠ "__name__" := by decide) (hdb : (y == ("__debug__" : Str)) = false := by decide) (hn2 : y2 ≠ "__name__" := by decide) (hdb2 : (y2 == ("__debug__" : Str)) = false := by decide)
    (hs : starEach [a, .Tuple [.Name y py, .Name y2 py2] kt pt] X.env = (false, eval a X.env) :: starEach [.Tuple [.Name y py, .Name y2 py2] kt pt] X.env := by rfl) (hpl : (backTo pos (starEach [.Tuple [.Name y py, .Name y2 py2] kt pt] X.env)).any (·.1) = false := by rfl) (hs2 : starEach [Expr.Tuple [.Name y py, .Name y2 py2] kt pt] X.env = (false, eval (.Tuple [.Name y py, .Name y2 py2] kt pt) X.env) :: starEach [] X.env := by rfl)
    (hs3 : starEach [Expr.Name y py, .Name y2 py2] X.env = (false, eval (.Name y py) X.env) :: starEach [.Name y2 py2] X.env := by rfl) (hs4 : starEach [Expr.Name y2 py2] X.env = (false, eval (.Name y2 py2) X.env) :: starEach [] X.env := by rfl) :
    QE X W (.Call (.Name "isinstance" p) [a, .Tuple [.Name y py, .Name y2 py2] kt pt] [] pos) (un (isiD2 c c2) fa) :=
  q_isi2 (pe_callB call_isiT hg hi PyProof.Rows.boot_isinstance (pa_cons ha (pa_cons (pe_tup (pa_cons (pe_bltn hgy hm hv (show RelV (.ty c) (.type c) from rfl) hn hdb) (pa_cons (pe_bltn hgy2 hm2 hv2 (show RelV (.ty c2) (.type c2) from rfl) hn2 hdb2) pa_nil hs4) hs3)) pa_nil hs2) hs) (by decide) (by decide) hs hpl)
end
end DV
set_option Elab.async false
set_option linter.all false
set_option maxRecDepth 100000
namespace DV
open PySem PySem.Spec PyProof.Rows L2
/-- a def that calls itself more than so often: nothing is promised -/
theorem cal0 {P : Program} {w : World} {K : PySem.W.Frag} {mg : Str → Option Value} {base : Heap} {x : Str} {k : Nat} {ps : List Str} {f : Addr} {fd : FuncData} (kp : PySem.W.keepIn K (.ref f) = true) (hm : mg x = some (.ref f)) (bd : Binds K fd ps []) :
    CalP P w K mg base x k ps (fun _ => .bad) :=
  ⟨(⟨fun vs H Q E h => by
    obtain ⟨F, args, _, _, _, q⟩ := h
    exact q.elim, fun A outer s H args us vs Q E _ _ _ _ h => by
    obtain ⟨F, args, _, _, _, q⟩ := h
    exact q.elim⟩ : FnOk P w K mg base (L2N.CX P w) k f fd ps _), hm, kp, bd, fun _ _ h => h.elim (fun e => nomatch e) fun ⟨_, e⟩ => nomatch e⟩

/-! ### sorted -/
open PySem.W in
def rSorted (K : PySem.W.Frag) : List V → Hp → VK → Prop := fun xs H Q => ∃ (p : Addr) (ys : List V) (ds : List PyData) (G : V → PyData → Prop), xs = [.ref p] ∧ (SqL K H p ys ∨ SqT K H p ys) ∧ DpAll K H ys ds ∧ Paired G ys ds ∧ AllAlike ds ∧ Sortable ds ∧
  (∀ d ∈ ds, d.depth ≤ 60) ∧ ∀ l zs, H l = none → Paired G zs (ds.mergeSort (dataLe false id)) → Q (.ref l) (upd H l (.lst zs))
section
variable {X : Cx}
theorem each_val {G : V → PyData → Prop} : ∀ {ys : List V} {ds : List PyData} {us : List Value}, Paired G ys ds → Vals ys us → PySem.W.EachIs (fun u d => ∃ y, RelV y u ∧ G y d) us ds
  | _, _, _, .nil, .nil => .nil
  | _, _, _, .cons a b, .cons c d => .cons ⟨_, c, a⟩ (each_val b d)
theorem val_each {G : V → PyData → Prop} : ∀ {us : List Value} {ds : List PyData}, PySem.W.EachIs (fun u d => ∃ y, RelV y u ∧ G y d) us ds → ∃ ys, Paired G ys ds ∧ Vals ys us
  | _, _, .nil => ⟨[], .nil, .nil⟩
  | _, _, .cons ⟨y, c, a⟩ t => let ⟨ys, b, d⟩ := val_each t; ⟨y :: ys, .cons a b, .cons c d⟩
theorem each_reads {pins : List (Addr × Obj)} {σ : L2.St} {H : Hp} {s : Shared} (I : Inv X pins σ H s) : ∀ {ys : List V} {ds : List PyData} {us : List Value}, DpAll X.K H ys ds → Vals ys us → PySem.W.EachIs (fun u d => ∃ as, Reads s.heap u d as) us ds
  | _, _, _, .nil, .nil => .nil
  | _, _, _, .cons a b, .cons c d => .cons (Dp.reads I _ _ _ a c) (each_reads I b d)
end
section
variable {X : Cx} {pins : List (Addr × Obj)} {σ : L2.St} {H : Hp} {s : Shared} {E : Value → Shared → Prop} {Q : VK}
open PySem.W in
theorem sorted_coll {r : Addr} (hu : X.A.units + 65 < cLine)
    (hc : wpAny (model X.prog X.w) X.A.in1 (collect (.ref r)) (fun its s1 => ∃ H1 ys ds, ∃ G : V → PyData → Prop, Inv X pins σ H1 s1 ∧ Vals ys its ∧ ys.length ≤ sizeLine ∧ DpAll X.K H1 ys ds ∧ Paired G ys ds ∧ AllAlike ds ∧ Sortable ds ∧ (∀ d ∈ ds, d.depth ≤ 60) ∧
      ∀ l zs, H1 l = none → Paired G zs (ds.mergeSort (dataLe false id)) → Q (.ref l) (upd H1 l (.lst zs))) E s) :
    wpAny (model X.prog X.w) X.A (call (.builtin "sorted") [.ref r]) (EP X pins σ Q) E s := by
  refine PySem.Calls.call_function_entry kind_sorted plain_sorted entry_sorted (args_sorted1 _) ?_
  unfold Builtin.«sorted»
  refine wpAny_bind (m := checkCount "sorted" 1 1 _) (wpAny_pure ?_)
  refine wpAny_bind (wpAny_mono hc (fun its s1 h1 => ?_) fun _ _ e => e)
  obtain ⟨H1, ys, ds, G, I, rv, hz, hdp, hG, hal, hso, hdp60, q⟩ := h1
  have hl := rv.length
  refine wpAny_bind (wpAny_newList ?_ (by omega))
  let D := s1.heap.objs.size
  let hp := s1.heap.push (seqObj "list" its.toArray 0)
  have hD : hp.get? D = some (seqObj "list" its.toArray 0) := Heap.get?_push_size _ rfl
  have old : ∀ b o, s1.heap.get? b = some o → b ≠ D ∧ hp.get? b = some o := fun b o e => ⟨Nat.ne_of_lt (Heap.lt_size e), Heap.get?_push_of_some _ e⟩
  have er := each_reads I hdp rv
  have e := each_val hG rv
  have el := e.length
  have er' : EachIs (fun v b => ∃ as, Reads (sortingHeap hp D its) v b as) its ds := er.mono fun _ _ ⟨as, r⟩ => ⟨as, PyProof.Rows.Reads.keeps (fun b o e => sortingHeap_old (old b o e).1 (old b o e).2) r⟩
  have hg : wpAny (model X.prog X.w) X.A.in1 (call (.builtin "list.sort") [.ref D]) (fun _ s' => EP X pins σ Q (.ref D) s') E { s1 with heap := hp } := by
    refine wpAny_call_entry slot_list_sort ⟨_, hD, rfl⟩ entry_list_sort ?_ (args_list_sort _)
    refine list_sort_vals (κ := dataKind (sortingHeap hp D its) ds) (s := { s1 with heap := hp }) hD ?_ (by omega) ⟨.none, rfl, ?_⟩
    · exact SortsAt.data (s := { s1 with heap := sortingHeap hp D its }) er' hal hso fun d hd => by
        have := hdp60 d hd
        show X.A.units + 1 + 1 + d.depth < cLine
        omega
    · have es := sortVals_data (enc := (id : PyData → PyData)) (h' := sortingHeap hp D its) (bs := ds) false e (by simpa using er') (by simpa using hal)
      rw [List.map_id] at es
      generalize hout : sortVals (dataKind (sortingHeap hp D its) ds) false its its = out at es ⊢
      obtain ⟨zs, pz, vz⟩ := val_each es
      obtain ⟨ep, he'⟩ := PyProof.Rows.sortedHeap_at (vs := its) (out := out.toArray) hD
      have kp : ∀ b o, s1.heap.get? b = some o → (sortedHeap hp D its out.toArray).get? b = some o := fun b o h => by
        rw [PyProof.Rows.sortedHeap_old (old b o h).1 (Heap.lt_size (old b o h).2)]; exact (old b o h).2
      have hzl : zs.length ≤ sizeLine := by
        have h1 := vz.length
        have h2 := es.length
        have h3 := List.length_mergeSort (le := dataLe false (id : PyData → PyData)) ds
        omega
      exact ⟨.ref D, _, I.laid (t' := s1.toks) kp (Nat.le_refl _) (show ObjOk X.prog X.w _ _ _ (.lst zs) from ⟨hzl, out, ep, vz, he'⟩), rfl, q _ _ (I.hok.fresh (Nat.le_refl _)) pz⟩
  refine wpAny_bind (wpAny_holding (wpAny_mono hg (fun _ s' x => ?_) fun _ _ e => e))
  exact wpAny_pure ⟨_, rfl, x⟩
end
section
variable {X : Cx}
theorem call_sorted (hu : X.A.units + 65 < cLine) : CallR X (.builtin "sorted") (rSorted X.K) := by
  rintro pins s σ H _ us Q I r ⟨p, ys, ds, G, rfl, seq, data, hG, al, so, deep, q⟩
  obtain ⟨u, rfl, ru⟩ := vals1 r
  obtain rfl : u = Value.ref p := ru
  have from_ : ∀ (T : String), T = "list" ∨ T = "tuple" → ∀ (its : List Value) (o : Obj) (n : Nat), Vals ys its → ys.length ≤ sizeLine → s.heap.get? p = some o → o.cls = .type T → o.data = .seq its.toArray n → wpAny (model X.prog X.w) X.A (call (.builtin "sorted") [.ref p]) (EP X pins σ Q) X.xe s :=
    fun T hT its o n vals small there cls items => sorted_coll hu (wpAny_collect_seq p hT there cls items (fun h' keeps => ⟨H, ys, ds, G, I.kept keeps, vals, small, data, hG, al, so, deep, q⟩) (by rw [List.size_toArray, ← vals.length]; exact small))
  cases seq with
  | inl l =>
    obtain ⟨its, vals, plain, small⟩ := I.list l
    obtain ⟨o, there, cls, n, items⟩ := plain.isList
    exact from_ "list" (.inl rfl) its o n vals small there cls items
  | inr t =>
    obtain ⟨its, vals, ⟨o, there, cls, n, items⟩, small⟩ := I.tuple t
    exact from_ "tuple" (.inr rfl) its o n vals small there cls items
end
end DV
set_option Elab.async false
set_option linter.all false
set_option maxRecDepth 100000
namespace DV
open PySem PySem.Spec PyProof.Rows L2 PySem.W
/-! ### sorting by insertion -/
def insBy {α : Type} (le : α → α → Bool) (x : α) : List α → List α
  | [] => [x]
  | y :: ys => if le x y then x :: y :: ys else y :: insBy le x ys
def isort {α : Type} (le : α → α → Bool) : List α → List α
  | [] => []
  | x :: xs => insBy le x (isort le xs)
section
variable {α : Type} {le : α → α → Bool}
theorem insBy_perm (x : α) : ∀ ys : List α, (insBy le x ys).Perm (x :: ys)
  | [] => .refl _
  | y :: ys => by
    unfold insBy
    split
    · exact .refl _
    · exact ((insBy_perm x ys).cons y).trans (List.Perm.swap x y ys)
theorem isort_perm : ∀ xs : List α, (isort le xs).Perm xs
  | [] => .refl _
  | x :: xs => (insBy_perm x _).trans ((isort_perm xs).cons x)
theorem insBy_sorted (tr : ∀ a b c, le a b = true → le b c = true → le a c = true) (to : ∀ a b, (le a b || le b a) = true) (x : α) : ∀ ys : List α, ys.Pairwise (fun a b => le a b = true) → (insBy le x ys).Pairwise (fun a b => le a b = true)
  | [], _ => List.pairwise_singleton _ _
  | y :: ys, h => by
    have hy := List.pairwise_cons.mp h
    unfold insBy
    split
    · rename_i c
      refine List.pairwise_cons.mpr ⟨fun z hz => ?_, h⟩
      rcases List.mem_cons.mp hz with rfl | hz
      · exact c
      · exact tr _ _ _ c (hy.1 z hz)
    · rename_i c
      refine List.pairwise_cons.mpr ⟨fun z hz => ?_, insBy_sorted tr to x ys hy.2⟩
      rcases List.mem_cons.mp ((insBy_perm x ys).mem_iff.mp hz) with rfl | hz
      · have := to z y
        simpa [c] using this
      · exact hy.1 z hz
theorem isort_sorted (tr : ∀ a b c, le a b = true → le b c = true → le a c = true) (to : ∀ a b, (le a b || le b a) = true) : ∀ xs : List α, (isort le xs).Pairwise (fun a b => le a b = true)
  | [] => .nil
  | x :: xs => insBy_sorted tr to x _ (isort_sorted tr to xs)
theorem isort_merge (tr : ∀ a b c, le a b = true → le b c = true → le a c = true) (to : ∀ a b, (le a b || le b a) = true) {xs : List α} (an : ∀ a ∈ xs, ∀ b ∈ xs, le a b = true → le b a = true → a = b) : xs.mergeSort le = isort le xs := by
  have p1 := List.mergeSort_perm xs le
  have p2 := isort_perm (le := le) xs
  refine List.Perm.eq_of_pairwise (fun a b ha hb h1 h2 => an a (p1.mem_iff.mp ha) b (p2.mem_iff.mp hb) h1 h2) (List.pairwise_mergeSort tr to xs) (isort_sorted tr to xs) (p1.trans p2.symm)
end
/-! alike data that are equal are the same -/
mutual
theorem alike_same : ∀ (x y : PyData), alike x y = true → PyData.eqv x y = true → x = y
  | .none, y, h, e => by cases y <;> simp_all [alike]
  | .bool a, y, h, e => by cases y <;> simp_all [alike, PyData.eqv]
  | .int a, y, h, e => by cases y <;> simp_all [alike, PyData.eqv]
  | .str a, y, h, e => by cases y <;> simp_all [alike, PyData.eqv]
  | .list xs, y, h, e => by
    cases y with
    | list ys =>
      have h' : alikeAll xs ys = true := by simpa [alike] using h
      have e' : PyData.eqvAll xs ys = true := by simpa [PyData.eqv] using e
      rw [alike_sameAll xs ys h' e']
    | _ => simp [alike] at h
  | .tuple xs, y, h, e => by
    cases y with
    | tuple ys =>
      have h' : alikeAll xs ys = true := by simpa [alike] using h
      have e' : PyData.eqvAll xs ys = true := by simpa [PyData.eqv] using e
      rw [alike_sameAll xs ys h' e']
    | _ => simp [alike] at h
  | .dict _, y, h, e => by cases y <;> simp [alike] at h
theorem alike_sameAll : ∀ (xs ys : List PyData), alikeAll xs ys = true → PyData.eqvAll xs ys = true → xs = ys
  | [], ys, h, e => by cases ys <;> simp_all [PyData.eqvAll]
  | x :: xs, ys, h, e => by
    cases ys with
    | nil => simp [PyData.eqvAll] at e
    | cons y ys =>
      simp only [alikeAll, Bool.and_eq_true] at h
      simp only [PyData.eqvAll, Bool.and_eq_true] at e
      rw [alike_same x y h.1 e.1, alike_sameAll xs ys h.2 e.2]
end
theorem le_anti {x y : PyData} (h : alike x y = true) (h1 : dataLe false (id : PyData → PyData) x y = true) (h2 : dataLe false (id : PyData → PyData) y x = true) : x = y := by
  have a1 : PyProof.Rows.lexLt itemOrd (keyToks y) (keyToks x) = false := by
    have : (!PyProof.Rows.lexLt itemOrd (keyToks y) (keyToks x)) = true := h1
    simpa using this
  have a2 : PyProof.Rows.lexLt itemOrd (keyToks x) (keyToks y) = false := by
    have : (!PyProof.Rows.lexLt itemOrd (keyToks x) (keyToks y)) = true := h2
    simpa using this
  have e := PyProof.Rows.lex_total (O := itemOrd) _ _ a2 a1
  cases q : PyData.eqv x y with
  | true => exact alike_same x y h q
  | false =>
    have t := (toks_eqv x y h).2 q [] [Sum.inl 0]
    rw [e, lex_pre, PyProof.Rows.lex_irrefl] at t
    cases t
def leD (x y : PyData) : Bool := !PyProof.Rows.lexLt itemOrd (keyToks y) (keyToks x)
def nnT : PyData → Bool
  | .none => false
  | .tuple _ => false
  | _ => true
def neT : PyData → Bool
  | .tuple (_ :: _) => true
  | _ => false
def sortOk (ds : List PyData) : Bool := (ds.all fun a => ds.all fun b => alike a b) && (ds.all neT || ds.all nnT) && (ds.all fun d => decide (d.depth ≤ 60)) && PyData.canLayAll0 ds
def sortD : List PyData → Option PyData
  | [.list ds] => if sortOk ds then some (.list (isort leD ds)) else none
  | [.tuple ds] => if sortOk ds then some (.list (isort leD ds)) else none
  | _ => none
theorem sortOk_spec {ds : List PyData} (h : sortOk ds = true) : AllAlike ds ∧ Sortable ds ∧ (∀ d ∈ ds, d.depth ≤ 60) ∧ PyData.canLayAll0 ds = true := by
  unfold sortOk at h
  simp only [Bool.and_eq_true, Bool.or_eq_true, List.all_eq_true, decide_eq_true_eq] at h
  obtain ⟨⟨⟨h1, h2⟩, h3⟩, h4⟩ := h
  refine ⟨fun d hd d' hd' => h1 d hd d' hd', ?_, h3, h4⟩
  rcases h2 with h2 | h2
  · left
    intro d hd
    have := h2 d hd
    unfold neT at this
    split at this
    · exact ⟨_, _, rfl⟩
    · cases this
  · right
    intro d hd
    have := h2 d hd
    unfold nnT at this
    constructor
    · rintro rfl; simp at this
    · rintro xs rfl; simp at this
theorem sort_eq {ds : List PyData} (h : sortOk ds = true) : ds.mergeSort (dataLe false id) = isort leD ds :=
  isort_merge (sortLe_total _ _ _).trans (fun a b => by
    have := (sortLe_total (listOrd itemOrd) false (fun b : PyData => keyToks b)).total a b
    rw [Bool.or_eq_true]; exact this) fun a ha b hb h1 h2 => le_anti ((sortOk_spec h).1 a ha b hb) h1 h2
theorem paired_all {K : PySem.W.Frag} {F : Hp} : ∀ {ys : List V} {ds : List PyData}, Paired (Dq K F) ys ds ↔ DqAll K F ys ds
  | [], [] => ⟨fun _ => .nil, fun _ => .nil⟩
  | [], _ :: _ => ⟨(fun h => nomatch h), (fun h => nomatch h)⟩
  | _ :: _, [] => ⟨(fun h => nomatch h), (fun h => nomatch h)⟩
  | _ :: ys, _ :: ds => ⟨fun h => by cases h with | cons a b => exact .cons a (paired_all.mp b), fun h => by cases h with | cons a b => exact .cons a (paired_all.mpr b)⟩
theorem d_sorted {K : PySem.W.Frag} : CaD K (rSorted K) sortD := fun F H us xs z Q s r e h => by
  have main : ∀ (ds : List PyData) (u : V) (a : Addr) (vs : List V), us = [.ref a] → sortOk ds = true → (SqL K H a vs ∨ SqT K H a vs) → DqAll K F vs ds → z = .list (isort leD ds) → rSorted K us H Q := by
    intro ds u a vs e1 ok hq da ez
    obtain ⟨h1, h2, h3, h4⟩ := sortOk_spec ok
    refine ⟨a, vs, ds, Dq K F, e1, hq, DqAll.dp (DqAll.mono s _ _ da) h4, paired_all.mpr da, h1, h2, h3, fun l zs hl pz => ?_⟩
    rw [sort_eq ok] at pz
    have g := Grow.new (o := .lst zs) s hl
    exact h _ _ _ g (by rw [ez]; exact .lst upd_same (DqAll.mono g.ff _ _ (paired_all.mp pz)))
  unfold sortD at e
  split at e
  · split at e
    · cases e
      obtain ⟨u, rfl, ru⟩ := r.one
      obtain ⟨a, vs, rfl, h1, d1⟩ := ru.list s
      exact main _ (.ref a) a vs rfl (by assumption) (.inl (SqL.of h1)) d1 rfl
    · cases e
  · split at e
    · cases e
      obtain ⟨u, rfl, ru⟩ := r.one
      obtain ⟨a, vs, rfl, h1, d1⟩ := ru.tuple s
      exact main _ (.ref a) a vs rfl (by assumption) (.inr h1) d1 rfl
    · cases e
  · cases e
theorem bSorted {X : Cx} {k : Nat} (hr : Room k X.A) (hc : X.calm = true) : BltR X (.builtin "sorted") sortD := ⟨_, call_sorted (Room.u65 hr), d_sorted⟩
example : isort leD [.tuple [.int 3, .int 1], .tuple [.int 2, .int 1]] = [.tuple [.int 2, .int 1], .tuple [.int 3, .int 1]] := by rfl
example : sortOk [.tuple [.int 3, .int 1], .tuple [.int 2, .int 1]] = true := by decide +kernel

/-! ### {a: b, c: d}.get(e), .get(e, f) -/
def get2 (a b c d : Int) (i : Int) : Option PyData := if i = a then some (.int b) else if i = c then some (.int d) else none
def getE1 (a b c d : Int) (fk : DE) : DE := fun sl S => (fk sl S).bind fun y S1 => match y with
  | .d (.int i) => .ok (.d ((get2 a b c d i).getD .none)) S1
  | _ => .bad
def getE2 (a b c d : Int) (fk fd : DE) : DE := fun sl S => (fk sl S).bind fun y S1 => (fd sl S1).bind fun z S2 => match y with
  | .d (.int i) => match get2 a b c d i with
    | some v => .ok (.d v) S2
    | none => .ok z S2
  | _ => .bad
section
variable {X : Cx} {W : WX} {e f : Expr} {fk fd : DE} {pos dpos apos cpos p1 p2 p3 p4 : Pos} {a b c d : Int} {k : Nat}
theorem val2 {a b c d : Int} (hac : a ≠ c) (i : Int) : valV (mergeK [] [((Sum.inl a : Key), V.int b), (.inl c, .int d)]) (.inl i) = if i = a then some (.int b) else if i = c then some (.int d) else none := by
  have e : mergeK [] [((Sum.inl a : Key), V.int b), (.inl c, .int d)] = [((Sum.inl a : Key), V.int b), (.inl c, .int d)] := by
    show putK (putK [] (Sum.inl a) (V.int b)) (Sum.inl c) (V.int d) = _
    have e1 : putK [] (Sum.inl a : Key) (V.int b) = [((Sum.inl a : Key), V.int b)] := rfl
    rw [e1]
    unfold putK
    have : ¬ (Sum.inl a : Key) = Sum.inl c := fun q => hac (Sum.inl.inj q)
    simp [this]
  rw [e]
  by_cases h1 : i = a
  · rw [if_pos h1, h1]; exact valV_pos rfl
  · rw [if_neg h1, valV_neg (fun q => h1 (Sum.inl.inj q).symm)]
    by_cases h2 : i = c
    · rw [if_pos h2, h2]; exact valV_pos rfl
    · rw [if_neg h2, valV_neg (fun q => h2 (Sum.inl.inj q).symm)]; exact valV_nil
theorem disp2_ok {K : PySem.W.Frag} {mg : Str → Option Value} {σ : L2.St} {H : Hp} {Q : VK} {ι : Nat → Addr} {F : Hp} {S : Sto} {sl : Sl} {α : Type} {r : R α} {P : α → Sto → (Nat → Addr) → Hp → Hp → Prop} (hz : sl.length ≤ σ.length) (hs : SlR K ι F S.length σ sl) (rel : Rel K ι F H S)
    (q : Aft K mg W σ ι F H S.length r P) (h : ∀ p F' H', H' p = some (.dK (mergeK [] [((Sum.inl a : Key), V.int b), (.inl c, .int d)])) → SlR K ι F' S.length σ sl → Rel K ι F' H' S → F' p = H' p → Aft K mg W σ ι F' H' S.length r P → Q (.ref p) H') :
    tDisp [(tC (.int a), tC (.int b)), (tC (.int c), tC (.int d))] σ H Q := by
  intro p hp
  refine ⟨upd_same, [(.inl a, .int b), (.inl c, .int d)], rfl, by simp, ?_⟩
  have g := Grow.new (o := .dK (mergeK [] [((Sum.inl a : Key), V.int b), (.inl c, .int d)])) rel.sub hp
  have eu : upd (upd H p (.dK [])) p (.dK (mergeK [] [((Sum.inl a : Key), V.int b), (.inl c, .int d)])) = upd H p (.dK (mergeK [] [((Sum.inl a : Key), V.int b), (.inl c, .int d)])) := by
    funext x
    unfold upd
    split <;> rfl
  show Q (.ref p) (upd (upd H p (.dK [])) p (.dK (mergeK [] [((Sum.inl a : Key), V.int b), (.inl c, .int d)])))
  rw [eu]
  exact h p _ _ upd_same (hs.stp g.stp) (rel.grow g) (by rw [upd_same, upd_same]) (q.stp g.stp)
theorem isd2 {F H F1 H1 : Hp} {p : Addr} {kvs : List (L2.Key × V)} (e : H p = some (.dK kvs)) (eF : F p = H p) (ff : Same F F1) (sub : Same F1 H1) : H1 p = some (.dK kvs) := sub _ _ (ff _ _ (eF.trans e))
theorem q_get1 {j1 j2 j3 j4 : Nat} (hr : Room k X.A) (hac : a ≠ c) (hk : QE X W e fk)
    (m : M1 X (.Dict [some (.Constant (.int a) j1 p1), some (.Constant (.int c) j3 p3)] [.Constant (.int b) j2 p2, .Constant (.int d) j4 p4] dpos) "get" apos e cpos) :
    QE X W (.Call (.Attribute (.Dict [some (.Constant (.int a) j1 p1), some (.Constant (.int c) j3 p3)] [.Constant (.int b) j2 p2, .Constant (.int d) j4 p4] dpos) "get" apos) [e] [] cpos) (getE1 a b c d fk) := by
  refine PE.imp (pe_dget1 (by have := hr.un; omega) (pe_disp (pps_cons pe_int pe_int (pps_cons pe_int pe_int pps_nil)) (by rfl) (by rfl) (by simp) (by simp)) hk m) fun σ H Q h => ?_
  obtain ⟨ι, F, S, sl, hz, hs, rel, q⟩ := h
  refine disp2_ok hz hs rel q fun p F' H' ep hs' rel' eF q' => ⟨p, rfl, .inl ⟨_, .inl ep⟩, ι, F', S, sl, hz, hs', rel', Aft.imp (Aft.bind q') fun y S1 ι1 F1 H1 ⟨s1, r1, h1⟩ u ru => ?_⟩
  split at h1
  · rename_i i _
    have eu : u = .int i := by cases ru; rfl
    subst eu
    refine ⟨_, DGet.k (k := .inl i) (isd2 ep eF s1.ff r1.sub), ?_⟩
    refine h1 ι1 F1 H1 .refl r1 _ ?_
    rw [val2 hac]
    unfold get2
    show Dq X.K F1 _ _
    split
    · exact .int _
    · split
      · exact .int _
      · exact .non
  · exact h1.elim
theorem q_get2 {j1 j2 j3 j4 : Nat} (hr : Room k X.A) (hac : a ≠ c) (hk : QE X W e fk) (hd : QE X W f fd)
    (m : M2 X (.Dict [some (.Constant (.int a) j1 p1), some (.Constant (.int c) j3 p3)] [.Constant (.int b) j2 p2, .Constant (.int d) j4 p4] dpos) "get" apos e f cpos) :
    QE X W (.Call (.Attribute (.Dict [some (.Constant (.int a) j1 p1), some (.Constant (.int c) j3 p3)] [.Constant (.int b) j2 p2, .Constant (.int d) j4 p4] dpos) "get" apos) [e, f] [] cpos) (getE2 a b c d fk fd) := by
  refine PE.imp (pe_dget2 (by have := hr.un; omega) (pe_disp (pps_cons pe_int pe_int (pps_cons pe_int pe_int pps_nil)) (by rfl) (by rfl) (by simp) (by simp)) hk hd m) fun σ H Q h => ?_
  obtain ⟨ι, F, S, sl, hz, hs, rel, q⟩ := h
  refine disp2_ok hz hs rel q fun p F' H' ep hs' rel' eF q' => ⟨p, rfl, .inl ⟨_, .inl ep⟩, ι, F', S, sl, hz, hs', rel', Aft.imp (Aft.bind q') fun y S1 ι1 F1 H1 ⟨s1, r1, h1⟩ u ru => ?_⟩
  refine ⟨ι1, F1, S1, sl, hz, hs'.stp s1, r1, Aft.imp (Aft.bind h1) fun z S2 ι2 F2 H2 ⟨s2, r2, h2⟩ v rv => ?_⟩
  split at h2
  · rename_i i _ _
    have eu : u = .int i := by cases ru; rfl
    subst eu
    refine ⟨_, DGet.k (k := .inl i) (isd2 ep eF (s1.ff.trans s2.ff) r2.sub), ?_⟩
    rw [val2 hac]
    unfold get2 at h2
    split at h2
    · rename_i v' e'
      split at e'
      · rename_i c1
        cases e'
        rw [if_pos c1]
        exact h2 ι2 F2 H2 .refl r2 _ (Dq.int _)
      · rename_i c1
        split at e'
        · rename_i c2
          cases e'
          rw [if_neg c1, if_pos c2]
          exact h2 ι2 F2 H2 .refl r2 _ (Dq.int _)
        · cases e'
    · rename_i e'
      split at e'
      · cases e'
      · rename_i c1
        split at e'
        · cases e'
        · rename_i c2
          rw [if_neg c1, if_neg c2]
          exact h2 ι2 F2 H2 .refl r2 _ rv
  · exact h2.elim
end
end DV
set_option Elab.async false
set_option linter.all false
set_option maxRecDepth 100000
namespace DV
open PySem PySem.Spec PyProof.Rows L2
mutual
def noL : PyData → Bool
  | .list _ => false
  | .dict _ => false
  | .tuple ds => noLs ds
  | _ => true
def noLs : List PyData → Bool
  | [] => true
  | d :: ds => noL d && noLs ds
end
section
variable {K : PySem.W.Frag} {F F2 : Hp}
theorem SqT.noL {a : Addr} {xs : List V} (e : ∀ a o, F a = some o → (∀ vs, o ≠ .lst vs) → (∀ ps, o ≠ .tbl ps) → (∀ φ, o ≠ .ext φ) → (∀ kv, o ≠ .dK kv) → F2 a = some o) (h : SqT K F a xs) : SqT K F2 a xs := by
  rcases h with (h | ⟨o, h⟩) | h
  · exact .inl (.inl (e _ _ h (fun vs q => nomatch q) (fun vs q => nomatch q) (fun vs q => nomatch q) fun vs q => nomatch q))
  · exact .inl (.inr ⟨o, e _ _ h (fun vs q => nomatch q) (fun vs q => nomatch q) (fun vs q => nomatch q) fun vs q => nomatch q⟩)
  · exact .inr h
mutual
theorem Dq.noL (e : ∀ a o, F a = some o → (∀ vs, o ≠ .lst vs) → (∀ ps, o ≠ .tbl ps) → (∀ φ, o ≠ .ext φ) → (∀ kv, o ≠ .dK kv) → F2 a = some o) {d : PyData} {v : V} (c : DV.noL d = true) (h : Dq K F v d) : Dq K F2 v d := match h with
  | .non => .non
  | .bl _ => .bl _
  | .int _ => .int _
  | .str _ => .str _
  | .lst s q => by simp [DV.noL] at c
  | .scr s q => by simp [DV.noL] at c
  | .tup s q p => .tup (SqT.noL e s) (DqAll.noL e (by simpa [DV.noL] using c) q) fun h => let ⟨o, xs, h1, h2⟩ := p h; ⟨o, xs, e _ _ h1 (fun vs z => nomatch z) (fun vs z => nomatch z) (fun vs z => nomatch z) (fun vs z => nomatch z), h2⟩
  | .dk s l k q => by simp [DV.noL] at c
  | .dt s l k q => by simp [DV.noL] at c
  | .dn z s a b c' v n q r => by simp [DV.noL] at c
theorem DqAll.noL (e : ∀ a o, F a = some o → (∀ vs, o ≠ .lst vs) → (∀ ps, o ≠ .tbl ps) → (∀ φ, o ≠ .ext φ) → (∀ kv, o ≠ .dK kv) → F2 a = some o) {ds : List PyData} {vs : List V} (c : DV.noLs ds = true) (h : DqAll K F vs ds) : DqAll K F2 vs ds := match h with
  | .nil => .nil
  | .cons a b => by
    simp only [DV.noLs, Bool.and_eq_true] at c
    exact .cons (Dq.noL e c.1 a) (DqAll.noL e c.2 b)
end
end
def callQ (Fn : FnP) (la : DL) : DE := fun sl S => (la sl S).bind fun xs S1 => match dats S1 xs with
  | some ds => match Fn ds with
    | .ok x => if noL x then .ok (.d x) S1 else .bad
    | .er e => if e.fs.isEmpty then .er e S1 else .bad
    | .bad => .bad
  | none => .bad
section
variable {K : PySem.W.Frag} {mg : Str → Option Value} {W : WX} {ι : Nat → Addr} {F H F' H' : Hp} {S : Sto} {la : DL}
open Classical in
/-- what a callee may think of as frozen: the lists lent too -/
noncomputable def lent (ι : Nat → Addr) (n : Nat) (F H : Hp) : Hp := fun a => if F a = none then (if ∃ k, k < n ∧ ι k = a then H a else none) else F a
open Classical in
noncomputable def back (ι : Nat → Addr) (n : Nat) (F F' : Hp) : Hp := fun a => if ∃ k, k < n ∧ ι k = a then F a else F' a
theorem lent_ff {n : Nat} : Same F (lent ι n F H) := fun a o h => by
  unfold lent
  rw [if_neg (by rw [h]; simp)]
  exact h
theorem lent_sub {n : Nat} (s : Same F H) : Same (lent ι n F H) H := fun a o h => by
  unfold lent at h
  split at h
  · split at h
    · exact h
    · cases h
  · exact s _ _ h
theorem lent_own {n k : Nat} (hk : k < n) {o : HO} (s : Same F H) (h : H (ι k) = some o) : lent ι n F H (ι k) = some o := by
  unfold lent
  split
  · rw [if_pos ⟨k, hk, rfl⟩]; exact h
  · rename_i c
    cases e : F (ι k) with
    | none => exact absurd e c
    | some o' => rw [← h]; exact (s _ _ e).symm
theorem lent_data (rel : Rel K ι F H S) {v : V} {x : Val} {d : PyData} (r : RV K ι F S.length v x) (e : DV.dat S x = some d) : Dq K (lent ι S.length F H) v d := by
  cases x with
  | d y =>
    simp [DV.dat] at e
    subst e
    exact Dq.mono lent_ff _ _ r
  | loc k =>
    obtain ⟨hk, rfl⟩ := r
    unfold DV.dat at e
    dsimp only at e
    split at e
    · rename_i xs ex
      obtain ⟨ds, e1, rfl⟩ := Option.map_eq_some_iff.mp e
      obtain ⟨f0, vs, h1, rv⟩ := rel.obj k _ ex
      exact .lst (lent_own hk rel.sub h1) (DqAll.mono lent_ff _ _ (rv.all e1))
    · rename_i ds ex
      cases e
      obtain ⟨vs, h1, dd⟩ := rel.obj k _ ex
      exact .lst (lent_ff _ _ h1) (DqAll.mono lent_ff _ _ dd)
    · rename_i kvs ex
      cases e
      obtain ⟨f0, es, ep, xs, vs, h1⟩ := rel.obj k _ ex
      exact h1.dq lent_ff (lent_own hk rel.sub h1.at_)
    · cases e
    · cases e
theorem lent_datas (rel : Rel K ι F H S) : ∀ {xs : List Val} {ds : List PyData} {us : List V}, dats S xs = some ds → RVs K ι F S.length us xs → DqAll K (lent ι S.length F H) us ds
  | [], ds, us, e, r => by cases r; simp [dats] at e; subst e; exact .nil
  | x :: xs, ds, us, e, r => by
    cases r with
    | cons a b =>
      unfold dats at e
      split at e
      · rename_i d ds' e1 e2
        cases e
        exact .cons (lent_data rel a e1) (lent_datas rel e2 b)
      · cases e
theorem back_grow (rel : Rel K ι F H S) (g : Grow (lent ι S.length F H) H F' H') : Grow F H (back ι S.length F F') H' where
  ff := fun a o h => by
    unfold back
    split
    · exact h
    · exact g.ff _ _ (lent_ff _ _ h)
  hh := g.hh
  sub := fun a o h => by
    unfold back at h
    split at h
    · exact g.hh _ _ (rel.sub _ _ h)
    · exact g.sub _ _ h
  fnew := fun a o h => by
    unfold back at h
    split at h
    · exact .inl h
    · rename_i c
      rcases g.fnew _ _ h with q | q
      · left
        unfold lent at q
        split at q
        · first
            | (rw [if_neg c] at q; cases q)
            | cases q
        · exact q
      · exact .inr q
theorem back_noL (rel : Rel K ι F H S) (g : Grow (lent ι S.length F H) H F' H') {v : V} {x : PyData} (c : noL x = true) (d : Dq K F' v x) : Dq K (back ι S.length F F') v x := by
  refine Dq.noL (fun a o h hn ht hx hk' => ?_) c d
  unfold back
  split
  · rename_i q
    obtain ⟨k, hk, rfl⟩ := q
    exfalso
    obtain ⟨o', ho⟩ : ∃ o', S[k]? = some o' := ⟨_, List.getElem?_eq_getElem hk⟩
    have hl : (∃ vs, lent ι S.length F H (ι k) = some (.lst vs)) ∨ (∃ ps, lent ι S.length F H (ι k) = some (.tbl ps)) ∨ (∃ φ, lent ι S.length F H (ι k) = some (.ext φ)) ∨ ∃ kv, lent ι S.length F H (ι k) = some (.dK kv) := by
      cases o' with
      | lst xs =>
        obtain ⟨f0, vs, h1, _⟩ := rel.obj k _ ho
        exact .inl ⟨vs, lent_own hk rel.sub h1⟩
      | frz ds =>
        obtain ⟨vs, h1, _⟩ := rel.obj k _ ho
        exact .inl ⟨vs, lent_ff _ _ h1⟩
      | gh x =>
        cases x with
        | tab x =>
          obtain ⟨_, _, ps, h1, _⟩ := rel.obj k _ ho
          exact .inr (.inl ⟨ps, lent_own hk rel.sub h1⟩)
        | lam j L cl =>
          obtain ⟨_, c, T, h1, _⟩ := rel.obj k _ ho
          exact .inr (.inr (.inl ⟨_, lent_own hk rel.sub h1⟩))
        | dct kvs =>
          obtain ⟨_, es, ep, xs, vs, h1⟩ := rel.obj k _ ho
          exact .inr (.inr (.inl ⟨_, lent_own hk rel.sub h1.at_⟩))
        | dci kvs =>
          obtain ⟨_, h1⟩ := rel.obj k _ ho
          exact .inr (.inr (.inr ⟨_, lent_own hk rel.sub h1⟩))
    rcases hl with ⟨vs, hl⟩ | ⟨ps, hl⟩ | ⟨φ, hl⟩ | ⟨kv, hl⟩
    · have := g.ff _ _ hl
      rw [h] at this
      exact hn vs (Option.some.inj this)
    · have := g.ff _ _ hl
      rw [h] at this
      exact ht ps (Option.some.inj this)
    · have := g.ff _ _ hl
      rw [h] at this
      exact hx φ (Option.some.inj this)
    · have := g.ff _ _ hl
      rw [h] at this
      exact hk' kv (Option.some.inj this)
  · exact h
theorem callQ_ok {Fn : FnP} {n : Nat} {σ : CxSt} {H : Hp} {Q : VK} (hn : ∀ args x, (Fn args = .ok x ∨ ∃ e, Fn args = .er e) → args.length = n) (h : tE K mg W (callQ Fn la) σ H Q) :
    tL K mg W la σ H fun us H1 => spP K mg n Fn (us ++ []) H1 Q (WE W σ) := by
  obtain ⟨ι, F, S, sl, hz, hs, rel, q⟩ := h
  refine ⟨ι, F, S, sl, hz, hs, rel, Aft.imp (Aft.bind q) fun xs S1 ι1 F1 H1 ⟨s1, r1, h1⟩ us rus => ?_⟩
  show spP K mg n Fn (us ++ []) H1 Q (WE W σ)
  rw [List.append_nil]
  split at h1
  · rename_i ds e2
    have d2 := lent_datas r1 e2 rus
    split at h1
    · rename_i x ex
      split at h1
      · rename_i c
        refine ⟨lent ι1 S1.length F1 H1, ds, by rw [d2.length]; exact hn _ x (.inl ex), lent_sub r1.sub, d2, ?_⟩
        rw [ex]
        exact fun v H' F' g dv => h1 ι1 _ H' (back_grow r1 g).stp (r1.grow (back_grow r1 g)) v (back_noL r1 g c dv)
      · exact h1.elim
    · rename_i x ex
      split at h1
      · rename_i c
        refine ⟨lent ι1 S1.length F1 H1, ds, by rw [d2.length]; exact hn _ .none (.inr ⟨_, ex⟩), lent_sub r1.sub, d2, ?_⟩
        rw [ex]
        refine fun H' F' cls d g er => h1 ι1 _ H' cls d (back_grow r1 g).stp (r1.grow (back_grow r1 g)) ⟨er.1, ?_⟩
        have e0 : x.fs = [] := by simpa using c
        rw [e0]
        trivial
      · exact h1.elim
    · exact h1.elim
  · exact h1.elim
end
section
variable {X : Cx} {W : WX} {e : Expr} {es : List Expr} {la : DL} {fa fb f : DE} {pos p p2 : Pos} {k : Nat} {x : Str} {ps : List Str} {tg : Expr}
theorem q_l {Fn : FnP} {j : Nat} (G : CalP X.prog X.w X.K X.mg X.base x k ps Fn) (hr : Room j X.A) (hj : k ≤ j) (tk : L2N.Takes X W) (ha : QA X W (e :: es) la) (hg : Gl X x := by rfl) (hdb : (x == ("__debug__" : Str)) = false := by decide)
    (he : starEach (e :: es) X.env = (false, eval e X.env) :: starEach es X.env := by rfl) (hpl : (backTo pos (starEach es X.env)).any (·.1) = false := by rfl) : QE X W (.Call (.Name x p) (e :: es) [] pos) (callQ Fn la) := by
  obtain ⟨ok, hm, kp, bd, ln⟩ := G
  exact PE.imp (pe_callSD ok (hr.mono hj) hg hm kp bd .nil (fun σ => L2N.passAt tk σ) ha hdb he hpl) fun σ H Q q => callQ_ok ln q
/-! ### a tuple of the module's own top -/
def IsT (K : PySem.W.Frag) (mg : Str → Option Value) (x : Str) (is : List Int) : Prop := ∃ a, mg x = some (.ref a) ∧ ∀ H : Hp, SqT K H a (is.map V.int)
theorem c_tup {is : List Int} (h : IsT X.K X.mg x is) (hg : Gl X x := by rfl) (hd : (x == ("__debug__" : Str)) = false := by decide) : QE X W (.Name x pos) (cst (.tuple (is.map .int))) := by
  obtain ⟨a, h, hq⟩ := h
  exact q_cst (pe_glob hg h (show RelV (.ref a) (.ref a) from rfl) hd) fun F => .tup (hq F) (DqAll.of_ints is) fun h => absurd h (by rw [sumlike_ints]; exact Bool.false_ne_true)
theorem sumlike_range (lo : Int) (n : Nat) : sumlike (rangeL lo n) = false := by
  have := sumlike_ints ((List.range n).map fun i => lo + (i : Nat))
  rwa [List.map_map] at this
/-! ### tuple(range(b)) -/
def tupRgE (f : DE) : DE := fun sl S => (f sl S).bind fun x S1 => match x with
  | .d (.int j) => if decide (-(2 ^ 62) ≤ j) && decide (j < 2 ^ 62) then (if (rangeL 0 j.toNat).length ≤ 10000000 then R.ok (.d (.tuple (rangeL 0 j.toNat))) S1 else .bad) else .bad
  | _ => .bad
theorem q_tupRg (h : PE X e (tTupRg (tRg1 (tE X.K X.mg W f)))) : QE X W e (tupRgE f) := by
  refine PE.imp h fun σ H Q ⟨ι, F, S, sl, hz, hs, rel, q⟩ => ?_
  refine ⟨ι, F, S, sl, hz, hs, rel, Aft.imp (Aft.bind q) fun x S1 ι1 F1 H1 ⟨s1, r1, h1⟩ u ru => ?_⟩
  split at h1
  · rename_i j0 _
    cases ru
    split at h1
    · rename_i c
      simp only [Bool.and_eq_true, decide_eq_true_eq] at c
      split at h1
      · rename_i c2
        rw [rangeL_length] at c2
        refine ⟨_, rfl, ⟨by decide, by decide, c.1, c.2, ?_⟩, fun p hp => ?_⟩
        · rw [Int.sub_zero]
          exact Nat.le_trans c2 (by decide)
        · have dd := rgV_list (K := X.K) (F := F1) 0 j0
          rw [Int.sub_zero] at dd
          have g := Grow.new (o := .tup (rgV 0 j0)) r1.sub hp
          exact h1 ι1 _ _ g.stp (r1.grow g) _ (Dq.tup (SqT.of upd_same) (DqAll.mono g.ff _ _ dd) fun h => absurd h (by rw [sumlike_range]; exact Bool.false_ne_true))
      · exact h1.elim
    · exact h1.elim
  · exact h1.elim
/-! ### zip of two lists, of two tuples -/
def zipP (ds es : List PyData) : List PyData := List.zipWith (fun x y => .tuple [x, y]) ds es
theorem zip_get {ds es : List PyData} {i : Nat} (h : i < (zipP ds es).length) : ∃ x y, ds[i]? = some x ∧ es[i]? = some y ∧ (zipP ds es)[i]? = some (.tuple [x, y]) := by
  unfold zipP at h ⊢
  rw [List.length_zipWith] at h
  have h1 : i < ds.length := by omega
  have h2 : i < es.length := by omega
  exact ⟨ds[i], es[i], List.getElem?_eq_getElem h1, List.getElem?_eq_getElem h2, by rw [List.getElem?_zipWith, List.getElem?_eq_getElem h1, List.getElem?_eq_getElem h2]⟩
/-- no pair among them is like a sum -/
def noSum (ds : List PyData) : Bool := ds.all fun p => match p with
  | .tuple l => !sumlike l
  | _ => true
theorem noSum_at {ds : List PyData} (h : noSum ds = true) {i : Nat} {l : List PyData} (e : ds[i]? = some (.tuple l)) : sumlike l = false := by
  have := List.all_eq_true.mp h _ (List.mem_of_getElem? e)
  simpa using this
theorem it_zip {K : PySem.W.Frag} {F : Hp} {a b : Addr} {vs us : List V} {ds es : List PyData} (h : F a = some (.lst vs)) (d : DqAll K F vs ds) (h' : F b = some (.lst us)) (d' : DqAll K F us es) (ns : noSum (zipP ds es) = true) : ItOk K F (Itz K a b) (zipP ds es) where
  go := fun i F1 H1 hi f1 f2 => by
    obtain ⟨x, y, e1, e2, _⟩ := zip_get hi
    obtain ⟨v, q1, _⟩ := d.get e1
    obtain ⟨u, q2, _⟩ := d'.get e2
    exact ⟨vs, us, v, u, SqL.of (f2 _ _ (f1 _ _ h)), SqL.of (f2 _ _ (f1 _ _ h')), q1, q2⟩
  yld := fun i F1 H1 w H2 hi f1 f2 ⟨T, v, u, ew, hT, eH, k1, k2⟩ => by
    subst ew eH
    obtain ⟨x, y, e1, e2, e3⟩ := zip_get hi
    obtain ⟨v', q1, dv⟩ := d.get e1
    obtain ⟨u', q2, du⟩ := d'.get e2
    have k1 := k1 vs (SqL.of (f2 _ _ (f1 _ _ h)))
    have k2 := k2 us (SqL.of (f2 _ _ (f1 _ _ h')))
    rw [q1] at k1
    rw [q2] at k2
    have k1 := Option.some.inj k1
    have k2 := Option.some.inj k2
    subst k1 k2
    have g := Grow.new (o := .tup [v', u']) f2 hT
    exact ⟨_, _, e3, g, .tup (SqT.of upd_same) (.cons (Dq.mono g.ff _ _ (Dq.mono f1 _ _ dv)) (.cons (Dq.mono g.ff _ _ (Dq.mono f1 _ _ du)) .nil)) fun h => absurd h (by rw [noSum_at ns e3]; exact Bool.false_ne_true)⟩
  stop := fun i F1 H1 hi f1 f2 => by
    refine ⟨vs, us, SqL.of (f2 _ _ (f1 _ _ h)), SqL.of (f2 _ _ (f1 _ _ h')), ?_⟩
    unfold zipP at hi
    rw [List.length_zipWith] at hi
    rw [d.length, d'.length]
    omega
theorem it_zipT {K : PySem.W.Frag} {F : Hp} {a b : Addr} {vs us : List V} {ds es : List PyData} (h : SqT K F a vs) (d : DqAll K F vs ds) (h' : SqT K F b us) (d' : DqAll K F us es) (ns : noSum (zipP ds es) = true) : ItOk K F (RZ.ItzT K a b) (zipP ds es) where
  go := fun i F1 H1 hi f1 f2 => by
    obtain ⟨x, y, e1, e2, _⟩ := zip_get hi
    obtain ⟨v, q1, _⟩ := d.get e1
    obtain ⟨u, q2, _⟩ := d'.get e2
    exact ⟨vs, us, v, u, SqT.mono f2 (SqT.mono f1 h), SqT.mono f2 (SqT.mono f1 h'), q1, q2⟩
  yld := fun i F1 H1 w H2 hi f1 f2 ⟨T, v, u, ew, hT, eH, k1, k2⟩ => by
    subst ew eH
    obtain ⟨x, y, e1, e2, e3⟩ := zip_get hi
    obtain ⟨v', q1, dv⟩ := d.get e1
    obtain ⟨u', q2, du⟩ := d'.get e2
    have k1 := k1 vs (SqT.mono f2 (SqT.mono f1 h))
    have k2 := k2 us (SqT.mono f2 (SqT.mono f1 h'))
    rw [q1] at k1
    rw [q2] at k2
    have k1 := Option.some.inj k1
    have k2 := Option.some.inj k2
    subst k1 k2
    have g := Grow.new (o := .tup [v', u']) f2 hT
    exact ⟨_, _, e3, g, .tup (SqT.of upd_same) (.cons (Dq.mono g.ff _ _ (Dq.mono f1 _ _ dv)) (.cons (Dq.mono g.ff _ _ (Dq.mono f1 _ _ du)) .nil)) fun h => absurd h (by rw [noSum_at ns e3]; exact Bool.false_ne_true)⟩
  stop := fun i F1 H1 hi f1 f2 => by
    refine ⟨vs, us, SqT.mono f2 (SqT.mono f1 h), SqT.mono f2 (SqT.mono f1 h'), ?_⟩
    unfold zipP at hi
    rw [List.length_zipWith] at hi
    rw [d.length, d'.length]
    omega
def zipI (la : DL) : IT := fun sl S => (la sl S).bind fun xs S1 => match frzL S1 xs with
  | some ([.list ds, .list es], S2) => if noSum (zipP ds es) = true then .ok (zipP ds es) S2 else .bad
  | some ([.tuple ds, .tuple es], S2) => if noSum (zipP ds es) = true then .ok (zipP ds es) S2 else .bad
  | _ => .bad
theorem i_zip {e2 : Expr} {elts : List Expr} {kk : Nat} {tpos : Pos} (hg : Gl X "zip") (hm : X.mg "zip" = none) (ha : QA X W [e, e2] la)
    (hs : starEach [e, e2] X.env = (false, eval e X.env) :: starEach [e2] X.env := by rfl) (hpl : (backTo pos (starEach [e2] X.env)).any (·.1) = false := by rfl) :
    QI X W (.Tuple elts kk tpos) (.Call (.Name "zip" p) [e, e2] [] pos) (zipI la) := by
  refine PI.imp (RZ.pi_zipA hg hm ha hs hpl) fun σ H Q q => ?_
  obtain ⟨ι, F, S, sl, hz, hs, rel, q⟩ := q
  refine ⟨ι, F, S, sl, hz, hs, rel, Aft.imp (Aft.bind q) fun xs S1 ι1 F1 H1 ⟨s1, r1, h1⟩ us rus => ?_⟩
  split at h1
  · rename_i ds es S2 e2
    split at h1
    case isFalse => exact h1.elim
    rename_i ns
    obtain ⟨F2, g2, d2⟩ := frzL_ok e2 r1 rus
    cases d2 with
    | cons a b =>
      cases b with
      | cons b c =>
        cases c
        cases a with
        | lst qa da =>
          cases b with
          | lst qb db => exact ⟨_, _, _, _, rfl, .inl ⟨SqL.of (g2.2.2.sub _ _ qa), SqL.of (g2.2.2.sub _ _ qb), h1 ι1 F2 H1 g2.2.1 g2.2.2 _ (it_zip qa da qb db ns)⟩⟩
  · rename_i ds es S2 e2
    split at h1
    case isFalse => exact h1.elim
    rename_i ns
    obtain ⟨F2, g2, d2⟩ := frzL_ok e2 r1 rus
    cases d2 with
    | cons a b =>
      cases b with
      | cons b c =>
        cases c
        cases a with
        | tup qa da _ =>
          cases b with
          | tup qb db _ => exact ⟨_, _, _, _, rfl, .inr ⟨SqT.mono g2.2.2.sub qa, SqT.mono g2.2.2.sub qb, h1 ι1 F2 H1 g2.2.1 g2.2.2 _ (it_zipT qa da qb db ns)⟩⟩
  · exact h1.elim
/-! ### try: .. except x: .. -/
def tryS (c : Str) (g h : DS) : DS := fun sl S => match g sl S with
  | .er e sl' S' => if e.cls = c then h sl' S' else .bad
  | r => r
structure ExmC (K : PySem.W.Frag) (mg : Str → Option Value) (x : Str) : Prop where
  ex : ∃ C, mg x = some (.ref C) ∧ PySem.W.exmOne K (.ref C) (.ref C) = some true
/-- a suite that raises nothing -/
def noErS (g : DS) : DS := fun sl S => match g sl S with
  | .er _ _ _ => .bad
  | r => r
/-- nothing is wished: nothing flies -/
theorem takesN {X : Cx} : L2N.Takes X W0 := fun _ _ x => by
  obtain ⟨_, _, _, _, _, _, _, _, _, _, _, _, _, _, _, _, z⟩ := x
  exact z.elim
theorem takesA {X : Cx} : L2.Takes X W0 := fun _ _ x => by
  obtain ⟨_, _, _, _, _, _, _, _, _, _, _, _, _, _, _, _, z⟩ := x
  exact z.elim
theorem s_try {body suite : List Stmt} {b₀ : Stmt} {np pos pos' : Pos} {g h : DS} (E : ExmC X.K X.mg x) (hg : Gl X x) (hp : ∀ hd : Option Value, PassesOwnAt (model X.prog X.w) (X.A.mark hd) X.A X.env X.xe) (hs : X.stack = X.env :: X.outer) (hf : X.env.frame = some X.env.locals)
    (hb : ∀ (W' : WX) (pn : List (Addr × Obj)) (xe : Value → Shared → Prop), L2N.Takes (X.tr pn xe) W' → QB (X.tr pn xe) W' body g)
    (hsu : ∀ (a : Addr) (pn : List (Addr × Obj)), L2H.HotC (L2H.suiteX X a pn) → QB (L2H.suiteX X a pn) W0 (b₀ :: suite) h) (hd : (x == ("__debug__" : Str)) = false := by decide) :
    QS X W (.Try body [.ExceptHandler (some (.Name x np)) none (b₀ :: suite) pos'] [] [] pos) (tryS x g (noErS h)) := by
  obtain ⟨C, hm, hx⟩ := E.ex
  refine PS.imp (L2H.ps_try_onlyX (c := .ref C) (Wout := W0) (tb := fun W' => tS X.K X.mg W' g) (ts := fun _ _ _ => tS X.K X.mg W0 h) hs hf ⟨hg, hd, .inl hm⟩ hp takesA (fun W' pn xe tk' _ _ => hb W' pn xe tk') (fun a oe cls d pn _ _ _ hc => hsu a _ hc)) fun D σ H q => ?_
  obtain ⟨ι, F, S, sl, hz, hsl, rel, q⟩ := q
  refine ⟨ι, F, S, sl, hz, hsl, rel, ?_⟩
  unfold tryS at q
  cases eg : g sl S with
  | er e sl' S' =>
    rw [eg] at q
    dsimp only at q
    split at q
    · rename_i ec
      intro ι' F' H' σ' cls dd s' r' z' h' er
      obtain ⟨⟨C', e1, e2⟩, _⟩ := er
      rw [ec, hm] at e2
      cases e2
      subst e1
      refine ⟨true, hx, fun _ a ha => ⟨ι', F', S', sl', z', h', r', ?_⟩, fun hh => nomatch hh⟩
      refine AftS.stp (r := h sl' S') ?_ s'
      unfold noErS at q
      cases eh : h sl' S' with
      | er x1 sl1 S1 => rw [eh] at q; exact q.elim
      | nx sl1 S1 => rw [eh] at q; exact q
      | bk sl1 S1 => rw [eh] at q; exact q
      | ct sl1 S1 => rw [eh] at q; exact q
      | rt d S1 => rw [eh] at q; exact q
      | bad => rw [eh] at q; exact q
    · exact q.elim
  | nx sl' S' => rw [eg] at q; exact q
  | rt d S' => rw [eg] at q; exact q
  | bk sl' S' => rw [eg] at q; exact q
  | ct sl' S' => rw [eg] at q; exact q
  | bad => rw [eg] at q; exact q.elim
end
/-! ### the head's facts, tuples of ints at the top too -/
def tupsOk (ts : List (Str × List Int)) (K : PySem.W.Frag) : Bool := ts.all fun t => He.tupB K t.1 (t.2.map He.Dv.int)
abbrev AlU : Type := He.AlD × Bool
def obsU (fa : List He.Fa) (fn : List He.DefD) (ts : List (Str × List Int)) (K : PySem.W.Frag) : AlU := (He.obsD fa fn K, tupsOk ts K)
def obsUG (n : Nat) (fa : List He.Fa) (fn : List He.DefD) (ts : List (Str × List Int)) (g : Addr → Option Obj) : AlU := obsU fa fn ts (He.frG g (He.asD g n))
def SaysU (fa : List He.Fa) (fn : List He.DefD) (ts : List (Str × List Int)) (K : PySem.W.Frag) : Prop := obsU fa fn ts K = (He.valD fn, true)
def hookU (n : Nat) (fa : List He.Fa) (fn : List He.DefD) (ts : List (Str × List Int)) : PySem.W.Hook where
  α := AlU
  obs := fun s => obsUG n fa fn ts s.heap.get?
  val := fun _ => (He.valD fn, true)
  says := fun _ h => ∃ K : PySem.W.Frag, K.In h ∧ SaysU fa fn ts K
  of := fun _ _ e => ⟨_, He.frG_in, e⟩
  keeps := fun _ _ _ ⟨K, hK, c⟩ k => ⟨K, PySem.W.Frag.In.keeps hK k, c⟩
theorem obsUG_eq {n : Nat} {fa : List He.Fa} {fn : List He.DefD} {ts : List (Str × List Int)} {g : Addr → Option Obj} {s : Shared} (h : ∀ a, g a = s.heap.get? a) : obsUG n fa fn ts g = (hookU n fa fn ts).obs s := by
  have e : g = s.heap.get? := funext h
  rw [e] <;> rfl
theorem SaysU.d {fa : List He.Fa} {fn : List He.DefD} {ts : List (Str × List Int)} {K : PySem.W.Frag} (c : SaysU fa fn ts K) : He.SaysD fa fn K := congrArg (fun z : AlU => z.1) c
theorem SaysU.tup {fa : List He.Fa} {fn : List He.DefD} {ts : List (Str × List Int)} {K : PySem.W.Frag} (c : SaysU fa fn ts K) (i : Nat) {x : Str} {is : List Int} (h : ts[i]? = some (x, is)) (H : Hp) : SqT K H (He.ga K x) (is.map V.int) := by
  have c1 : tupsOk ts K = true := congrArg (fun z : AlU => z.2) c
  have c2 := List.all_eq_true.mp c1 _ (List.mem_of_getElem? h)
  have c3 := He.tupB_ok c2 H
  rw [List.map_map] at c3
  exact c3
end DV
set_option Elab.async false
set_option linter.all false
set_option maxRecDepth 100000
set_option maxHeartbeats 4000000
namespace DV
open PySem PySem.Spec PyProof.Rows L2
def topI : List Int → Int
  | [] => 0
  | [a] => a
  | a :: r => if topI r < a then a else topI r
def lowI : List Int → Int
  | [] => 0
  | [a] => a
  | a :: r => if a < lowI r then a else lowI r
theorem topI_mem : ∀ (a : Int) (r : List Int), topI (a :: r) ∈ a :: r ∧ ∀ y ∈ a :: r, y ≤ topI (a :: r)
  | a, [] => by simp [topI]
  | a, b :: r => by
    obtain ⟨h1, h2⟩ := topI_mem b r
    have e : topI (a :: b :: r) = if topI (b :: r) < a then a else topI (b :: r) := rfl
    rw [e]
    split
    · rename_i c
      refine ⟨List.mem_cons_self, fun y hy => ?_⟩
      rcases List.mem_cons.mp hy with rfl | hy
      · exact Int.le_refl _
      · have := h2 y hy; omega
    · rename_i c
      refine ⟨List.mem_cons_of_mem _ h1, fun y hy => ?_⟩
      rcases List.mem_cons.mp hy with rfl | hy
      · omega
      · exact h2 y hy
theorem lowI_mem : ∀ (a : Int) (r : List Int), lowI (a :: r) ∈ a :: r ∧ ∀ y ∈ a :: r, lowI (a :: r) ≤ y
  | a, [] => by simp [lowI]
  | a, b :: r => by
    obtain ⟨h1, h2⟩ := lowI_mem b r
    have e : lowI (a :: b :: r) = if a < lowI (b :: r) then a else lowI (b :: r) := rfl
    rw [e]
    split
    · rename_i c
      refine ⟨List.mem_cons_self, fun y hy => ?_⟩
      rcases List.mem_cons.mp hy with rfl | hy
      · exact Int.le_refl _
      · have := h2 y hy; omega
    · rename_i c
      refine ⟨List.mem_cons_of_mem _ h1, fun y hy => ?_⟩
      rcases List.mem_cons.mp hy with rfl | hy
      · omega
      · exact h2 y hy
def maxLD : List PyData → Option PyData
  | [.list ds] => (intsOf ds).bind fun ns => if ns = [] then none else some (.int (topI ns))
  | _ => none
def minLD : List PyData → Option PyData
  | [.list ds] => (intsOf ds).bind fun ns => if ns = [] then none else some (.int (lowI ns))
  | _ => none
section
variable {K : PySem.W.Frag}
theorem d_maxL : CaD K (rMax K) maxLD := fun F H us xs z Q s r e h => by
  unfold maxLD at e
  split at e
  · obtain ⟨ns, e1, e2⟩ := Option.bind_eq_some_iff.mp e
    split at e2
    · cases e2
    · rename_i hne
      cases e2
      obtain ⟨u, rfl, ru⟩ := r.one
      rw [intsOf_eq e1] at ru
      obtain ⟨a, vs, rfl, h1, d1⟩ := ru.list s
      rw [d1.ints] at h1
      cases ns with
      | nil => exact absurd rfl hne
      | cons b r =>
        refine ⟨a, b :: r, rfl, SqL.of h1, by simp, fun m hm hb => ?_⟩
        obtain ⟨t1, t2⟩ := topI_mem b r
        have : m = topI (b :: r) := Int.le_antisymm (t2 m hm) (hb _ t1)
        rw [this]
        exact h _ F H (.refl s) (.int _)
  · cases e
theorem d_minL : CaD K (rMin K) minLD := fun F H us xs z Q s r e h => by
  unfold minLD at e
  split at e
  · obtain ⟨ns, e1, e2⟩ := Option.bind_eq_some_iff.mp e
    split at e2
    · cases e2
    · rename_i hne
      cases e2
      obtain ⟨u, rfl, ru⟩ := r.one
      rw [intsOf_eq e1] at ru
      obtain ⟨a, vs, rfl, h1, d1⟩ := ru.list s
      rw [d1.ints] at h1
      cases ns with
      | nil => exact absurd rfl hne
      | cons b r =>
        refine ⟨a, b :: r, rfl, SqL.of h1, by simp, fun m hm hb => ?_⟩
        obtain ⟨t1, t2⟩ := lowI_mem b r
        have : m = lowI (b :: r) := Int.le_antisymm (hb _ t1) (t2 m hm)
        rw [this]
        exact h _ F H (.refl s) (.int _)
  · cases e
end
section
variable {X : Cx} {W : WX} {a b c e o : Expr} {es : List Expr} {fa fb fo : DE} {la : DL} {pos p p2 : Pos}
theorem bMaxL (hc : X.calm = true) : BltR X (.builtin "max") maxLD := ⟨_, cr_max hc, d_maxL⟩
theorem bMinL (hc : X.calm = true) : BltR X (.builtin "min") minLD := ⟨_, cr_min hc, d_minL⟩
/-! ### backwards -/
theorem DqAll.rev {K : PySem.W.Frag} {F : Hp} : ∀ {ds : List PyData} {vs : List V}, DqAll K F vs ds → DqAll K F vs.reverse ds.reverse
  | [], _, h => by cases h; exact .nil
  | d :: ds, _, h => by
    cases h with
    | cons h1 h2 =>
      rw [List.reverse_cons, List.reverse_cons]
      exact (DqAll.rev h2).append (.cons h1 .nil)
def revE (fa : DE) : DE := fun sl S => (fa sl S).bind fun x S1 => match dat S1 x with
  | some (.list ds) => .ok (.d (.list ds.reverse)) S1
  | _ => .bad
theorem q_rev {k : Nat} {p1 p2 p3 : Pos} (ha : QE X W a fa) : QE X W (.Subscript a (.Slice none none (some (.UnaryOp .USub (.Constant (.int 1) k p1) p2)) p3) pos) (revE fa) := by
  refine PE.imp (pe_revL ha) fun σ H Q ⟨ι, F, S, sl, hz, hs, rel, q⟩ => ?_
  refine ⟨ι, F, S, sl, hz, hs, rel, Aft.imp (Aft.bind q) fun x S1 ι1 F1 H1 ⟨s1, r1, h1⟩ u ru => ?_⟩
  split at h1
  · rename_i ds ed
    obtain ⟨l, vs, rfl, q1, d1⟩ := (ru.dat r1 ed).list r1.sub
    refine ⟨l, vs, rfl, SqL.of q1, fun t ht => ?_⟩
    have g := Grow.new (o := .lst vs.reverse) r1.sub ht
    exact h1 ι1 _ _ g.stp (r1.grow g) _ (.lst upd_same (DqAll.mono g.ff _ _ d1.rev))
  · exact h1.elim
/-! ### extend -/
def extE (fo fa : DE) : DE := fun sl S => (fo sl S).bind fun x S1 => match lstAt S1 x with
  | none => .bad
  | some _ => (consL fa nilL sl S1).bind fun ys S2 => match ys with
    | [y] => match lstAt S2 x with
      | some (k, xs) => match lstAt S2 y with
        | some (_, zs) => if xs.length + zs.length ≤ sizeLine then .ok (.d .none) (S2.set k (.lst (xs ++ zs))) else .bad
        | none => .bad
      | none => .bad
    | _ => .bad
theorem ext_ok {K : PySem.W.Frag} {mg : Str → Option Value} {σ : CxSt} {H : Hp} {Q : VK} (h : tE K mg W (extE fo fa) σ H Q) :
    tE K mg W fo σ H fun x H1 => tyV K "list" x H1 ∧ tL K mg W (consL fa nilL) σ H1 fun us H2 => rExtend x us H2 Q := by
  obtain ⟨ι, F, S, sl, hz, hs, rel, q⟩ := h
  refine ⟨ι, F, S, sl, hz, hs, rel, Aft.imp (Aft.bind q) fun x S1 ι1 F1 H1 ⟨s1, r1, h1⟩ u ru => ?_⟩
  split at h1
  · exact h1.elim
  · rename_i q0 e0
    obtain ⟨k0, xs0⟩ := q0
    obtain ⟨ex0, e00⟩ := lstAt_eq e0
    subst ex0
    obtain ⟨_, vs0, h0, _⟩ := r1.obj _ _ e00
    obtain ⟨hk0, rfl⟩ := ru
    refine ⟨.inl ⟨rfl, vs0, SqL.of h0⟩, ι1, F1, S1, sl, hz, hs.stp s1, r1, Aft.imp h1.bind fun ys S2 ι2 F2 H2 ⟨s2, r2, h2⟩ us rus => ?_⟩
    split at h2
    · rename_i y _
      cases e2 : lstAt S2 (Val.loc k0) with
      | none => rw [e2] at h2; exact h2.elim
      | some z2 =>
        obtain ⟨k, xs⟩ := z2
        rw [e2] at h2
        obtain ⟨e3, e2⟩ := lstAt_eq e2
        cases e3
        cases e4 : lstAt S2 y with
        | none => rw [e4] at h2; exact h2.elim
        | some z4 =>
          obtain ⟨k2, zs⟩ := z4
          rw [e4] at h2
          obtain ⟨e5, e6⟩ := lstAt_eq e4
          subst e5
          dsimp only at h2
          split at h2
          · rename_i hl
            obtain ⟨_, vs, h3, h4⟩ := r2.obj _ _ e2
            obtain ⟨_, ws, h5, h6⟩ := r2.obj _ _ e6
            obtain ⟨u, rfl, ru2⟩ := rus.one
            obtain ⟨hk2, rfl⟩ := ru2
            rw [← s2.ag k0 hk0]
            obtain ⟨st, r'⟩ := own_set r2 e2 (h4.append h6)
            exact ⟨_, _, vs, ws, rfl, rfl, h3, h5, by rw [h4.length, h6.length]; exact hl, h2 ι2 F2 _ st r' _ Dq.non⟩
          · exact h2.elim
    · exact h2.elim
theorem q_ext (h : PE X e (tBM X.K "list" rExtend (tE X.K X.mg W fo) (tL X.K X.mg W (consL fa nilL)))) : QE X W e (extE fo fa) := PE.imp h fun σ H Q q => ext_ok q
end
end DV
set_option Elab.async false
set_option linter.all false
set_option maxRecDepth 100000
set_option maxHeartbeats 4000000
namespace DV
open PySem PySem.Spec PyProof.Rows L2
theorem nodup_len {α : Type} [DecidableEq α] : ∀ (l m : List α), l.Nodup → (∀ x ∈ l, x ∈ m) → l.length ≤ m.length
  | [], _, _, _ => Nat.zero_le _
  | x :: l, m, h, k => by
    obtain ⟨h1, h2⟩ := List.nodup_cons.mp h
    have hx := k x List.mem_cons_self
    have := nodup_len l (m.erase x) h2 fun y hy => (List.mem_erase_of_ne (fun e => h1 (by rw [← e]; exact hy))).mpr (k y (List.mem_cons_of_mem _ hy))
    have e := List.length_erase_of_mem hx
    have p : 0 < m.length := List.length_pos_of_mem hx
    rw [List.length_cons]
    omega
/-- len of a set of tuples of ints -/
def rLenT (K : PySem.W.Frag) (P : Program) (w : World) : List V → Hp → VK → Prop := fun vs H Q => ∃ (a : Addr) (L : List (Addr × List Int)), vs = [V.ref a] ∧ H a = some (SetTO P w a L) ∧ (∀ p ∈ L, SqT K H p.1 (p.2.map V.int)) ∧ ((L.map (·.2)).Nodup → Q (.int L.length) H)
theorem cr_lenT {X : Cx} : CallR X (.builtin "len") (rLenT X.K X.prog X.w) := by
  intro pins s σ H vs us Q I r h
  obtain ⟨a, L, rfl, ha, hk, q⟩ := h
  have R0 : SetT0 X.prog X.w s.heap a L := (I.hok a _ ha).1
  obtain ⟨es, ep, t, R⟩ := R0.full fun p hp => I.isT (hk p hp)
  rw [Vals.ref1 r]
  obtain ⟨o, ho, hex, hd⟩ := R.ob
  have hfew := R.few
  refine call_len_set ho hex hd R.fits (by rw [R.size]; omega) ⟨.int L.length, H, I.tok _, ⟨_, by rw [R.size]⟩, q R.nd⟩
def tupsOf : List PyData → Option (List (List Int))
  | [] => some []
  | .tuple xs :: r => match intsOf xs, tupsOf r with
    | some a, some b => some (a :: b)
    | _, _ => none
  | _ => none
/-- without doubles -/
def ddL {α : Type} [DecidableEq α] : List α → List α
  | [] => []
  | x :: l => if x ∈ l then ddL l else x :: ddL l
theorem ddL_mem {α : Type} [DecidableEq α] : ∀ (l : List α) (x : α), x ∈ ddL l ↔ x ∈ l
  | [], x => Iff.rfl
  | y :: l, x => by
    unfold ddL
    split
    · rename_i h
      rw [ddL_mem l x, List.mem_cons]
      exact ⟨.inr, fun q => q.elim (fun e => e ▸ h) id⟩
    · rw [List.mem_cons, List.mem_cons, ddL_mem l x]
theorem ddL_nodup {α : Type} [DecidableEq α] : ∀ l : List α, (ddL l).Nodup
  | [] => .nil
  | y :: l => by
    unfold ddL
    split
    · exact ddL_nodup l
    · rename_i h
      exact List.nodup_cons.mpr ⟨fun q => h ((ddL_mem l y).mp q), ddL_nodup l⟩
def lenSetD : List PyData → Option PyData
  | [.list ds] => match tupsOf ds with
    | some ks => if ks.length < 64 ∧ ks.Nodup then some (.int ks.length) else if ks.length < 64 then some (.int (ddL ks).length) else none
    | none => none
  | _ => none
theorem tups_at {K : PySem.W.Frag} {F H : Hp} (s : Same F H) : ∀ {ds : List PyData} {ks : List (List Int)} {vs : List V}, tupsOf ds = some ks → DqAll K F vs ds → ∃ L : List (Addr × List Int), vs = L.map (fun p => V.ref p.1) ∧ (∀ p ∈ L, SqT K H p.1 (p.2.map V.int)) ∧ L.map (·.2) = ks
  | [], ks, vs, e, h => by
    cases h
    simp [tupsOf] at e
    exact ⟨[], rfl, fun p hp => absurd hp List.not_mem_nil, by rw [e]; rfl⟩
  | .tuple xs :: r, ks, vs, e, h => by
    unfold tupsOf at e
    split at e
    · rename_i a b e1 e2
      cases e
      cases h with
      | cons h1 h2 =>
        obtain ⟨L, rfl, l1, l2⟩ := tups_at s e2 h2
        obtain ⟨t, us, rfl, q1, q2⟩ := (show RD K F H _ (.tuple xs) from .inl h1).tuple s
        rw [intsOf_eq e1] at q2
        rw [q2.ints] at q1
        refine ⟨(t, a) :: L, rfl, fun p hp => ?_, by rw [List.map_cons, l2]⟩
        rcases List.mem_cons.mp hp with rfl | hp
        · exact q1
        · exact l1 p hp
    · cases e
  | .none :: _, _, _, e, _ | .bool _ :: _, _, _, e, _ | .int _ :: _, _, _, e, _ | .str _ :: _, _, _, e, _ | .list _ :: _, _, _, e, _ | .dict _ :: _, _, _, e, _ => by simp [tupsOf] at e
def rLS (K : PySem.W.Frag) (P : Program) (w : World) : List V → Hp → VK → Prop := fun us H Q => rSetOfT K P w us H fun v H1 => rLenT K P w [v] H1 Q
theorem d_lenSet {K : PySem.W.Frag} {P : Program} {w : World} : CaD K (rLS K P w) lenSetD := fun F H us xs z Q s r e h => by
  unfold lenSetD at e
  split at e
  · split at e
    · rename_i ks ek
      have main : ∀ (ds : List (List Int)), ks.length < 64 → ds.Nodup → (∀ x, x ∈ ds ↔ x ∈ ks) → z = .int ds.length → rLS K P w us H Q := fun ds c1 c2 c3 ez => by
        subst ez
        obtain ⟨u, rfl, ru⟩ := r.one
        obtain ⟨a, vs, rfl, h1, d1⟩ := ru.list s
        obtain ⟨L, rfl, l1, l2⟩ := tups_at s ek d1
        have ll : L.length = ks.length := by rw [← l2, List.length_map]
        refine ⟨a, L, rfl, SqL.of h1, l1, by rw [ll]; exact c1, fun p L2 hp hsub hall => ?_⟩
        have g := Grow.new (o := SetTO P w p L2) s hp
        refine ⟨p, L2, rfl, upd_same, fun q hq => DV.SqT.mono g.hh (l1 q (hsub q hq)), fun nd => ?_⟩
        have e1 : L2.length = ds.length := by
          have a1 := nodup_len (L2.map (·.2)) ds nd fun x hx => by
            obtain ⟨q, hq, rfl⟩ := List.mem_map.mp hx
            rw [c3, ← l2]
            exact List.mem_map.mpr ⟨q, hsub q hq, rfl⟩
          have a2 := nodup_len ds (L2.map (·.2)) c2 fun x hx => by
            rw [c3, ← l2] at hx
            obtain ⟨q, hq, rfl⟩ := List.mem_map.mp hx
            exact hall q hq
          rw [List.length_map] at a1 a2
          omega
        rw [e1]
        exact h _ _ _ g (.int _)
      split at e
      · rename_i c
        cases e
        exact main ks c.1 c.2 (fun _ => Iff.rfl) rfl
      · split at e
        · rename_i c
          cases e
          exact main (ddL ks) c (ddL_nodup ks) (ddL_mem ks) rfl
        · cases e
    · cases e
  · cases e
section
variable {X : Cx} {W : WX} {a b c e o : Expr} {es : List Expr} {fa fb fo : DE} {la : DL} {pos p p2 q : Pos}
theorem q_lenSet {j : Nat} (hr : Room j X.A) (hc : X.calm = true) (hm : X.mg "len" = none) (hm2 : X.mg "set" = none) (ha : QE X W a fa) (hg : Gl X "len" := by rfl) (hg2 : Gl X "set" := by rfl)
    (he : starEach [Expr.Call (.Name "set" p2) [a] [] q] X.env = (false, eval (Expr.Call (.Name "set" p2) [a] [] q) X.env) :: starEach [] X.env := by rfl) (hpl : (backTo pos (starEach [] X.env)).any (·.1) = false := by rfl)
    (he2 : starEach [a] X.env = (false, eval a X.env) :: starEach [] X.env := by rfl) (hpl2 : (backTo q (starEach [] X.env)).any (·.1) = false := by rfl) :
    QE X W (.Call (.Name "len" p) [.Call (.Name "set" p2) [a] [] q] [] pos) (blt lenSetD (consL fa nilL)) := by
  have h1 : PE X (.Call (.Name "set" p2) [a] [] q) (tCB (rSetOfT X.K X.prog X.w) (tL X.K X.mg W (consL fa nilL))) := pe_callTy (cr_setOfT hc (by have := Room.u65 hr; omega)) hg2 hm2 PyProof.Rows.boot_set (a_cons ha a_nil he2) (by decide) (by decide) he2 hpl2
  have h2 : PE X (.Call (.Name "len" p) [.Call (.Name "set" p2) [a] [] q] [] pos) (tCB (rLenT X.K X.prog X.w) (tCons (tCB (rSetOfT X.K X.prog X.w) (tL X.K X.mg W (consL fa nilL))) tNil)) := pe_callB cr_lenT hg hm PySem.boot_len (pa_cons h1 pa_nil he) (by decide) (by decide) he hpl
  exact q_blt (r := rLS X.K X.prog X.w) d_lenSet h2
end
end DV
set_option Elab.async false
set_option linter.all false
set_option maxRecDepth 100000
set_option maxHeartbeats 4000000
namespace DV
open PySem PySem.Spec PyProof.Rows L2
abbrev bareSet (w : World) : Obj := { cls := .type "set", dict := none, data := .set #[] 0 (.fresh 0 0 (!w.params.followText "set-order")) }
/-- what the filled set is -/
def FullSet (w : World) (ns : List Int) (s : Shared) (h' : Heap) (c : Nat) : Prop :=
  SetR w h' s.heap.objs.size (fun j => decide (j ∈ ns)) c ∧ c ≤ ns.length ∧ ∀ b o, s.heap.get? b = some o → h'.get? b = some o
section
variable {P : Program} {w : World} {A : Around} {E : Value → Shared → Prop} {s : Shared}
/-- set.__init__ over a list of ints -/
theorem fill_list {B : Around} {l : Addr} {items : Array Value} {ns : List Int} (hh : B.handled = none) (hl : s.heap.IsList l items) (hit : IntsAre items.toList ns) (hb : ns.length + 1 < scanBound) {R : PySem.Fin → Shared → Prop} {E' : Value → Shared → Prop}
    (k : ∀ (h' : Heap) (tk c : Nat), FullSet w ns s h' c → R (.done (.ret .none)) { s with heap := h', toks := tk }) :
    wpAny (model P w) B (Builtin.«set.__init__» ⟨[.ref s.heap.objs.size, .ref l], []⟩) R E' { s with heap := s.heap.push (bareSet w) } := by
  obtain ⟨⟨cls, dict, data, slots⟩, h0, hc, n0, hd⟩ := hl
  dsimp only at hc hd
  subst hc hd
  have now : (s.heap.push (bareSet w)).get? s.heap.objs.size = some (bareSet w) := Heap.get?_push_size _ rfl
  have old : (s.heap.push (bareSet w)).get? l = some ⟨.type "list", dict, .seq items n0, slots⟩ := Heap.get?_push_of_some _ h0
  have hs1 := F.sub_list_set
  have hs2 := F.sub_list_frozenset
  have ne1 : (Value.type "list" == Value.type "dict") = false := by decide
  have li : (s.heap.push (bareSet w)).IsList l items := ⟨_, old, rfl, n0, rfl⟩
  unfold Builtin.«set.__init__» noKeywords Builtin.Frozenset.updateFrom
  generalize walkOf : pyIter = PI
  wp_walk
  subst walkOf
  refine wpAny_pyIter_list li (wpAny_bind (wpAny_runValue ?_))
  have hl : l < s.heap.objs.size := Heap.lt_size h0
  have hb' : B.in1.handled = none := by simp [hh]
  have i1 : l ≠ (s.heap.push (bareSet w)).objs.size := by
    rw [Heap.size_push]
    exact Nat.ne_of_lt (Nat.lt_succ_of_lt hl)
  have i2 : s.heap.objs.size ∉ [(s.heap.push (bareSet w)).objs.size, l] := by
    rw [Heap.size_push]
    intro z
    rcases List.mem_cons.mp z with z | z
    · exact absurd z (Nat.ne_of_lt (Nat.lt_succ_self _))
    · exact absurd (List.mem_singleton.mp z) (Nat.ne_of_gt hl)
  have hz : items.size = ns.length := by
    rw [← IntsAre.length hit, Array.length_toList]
  have vals : ∀ (i : Nat) (v : Value), items[i]? = some v → ∃ k t, ns[i]? = some k ∧ v = .int k t := fun i v hv => by
    have hi := (Array.getElem?_eq_some_iff.mp hv).1
    have hn : i < ns.length := by omega
    obtain ⟨t, e⟩ := PyProof.Rows.IntsAre.int_at hit i v (by rw [Array.getElem?_toList]; exact hv)
    exact ⟨ns[i], t, List.getElem?_eq_getElem hn, by rw [e, List.getD_eq_getElem?_getD, List.getElem?_eq_getElem hn]; rfl⟩
  have first : ((s.heap.push (bareSet w)).push { cls := .type "list_iterator", data := .fields #[.ref l, .int 0 0] }).get? s.heap.objs.size = some (bareSet w) := Heap.get?_push_of_some _ now
  refine set_update_ints (Walks.list hb' _ l i1 items).toS s.heap.objs.size i2 ns hz hb vals (items.size - 0) 0 _ (by omega) (Nat.zero_le _) ⟨⟨_, Heap.get?_push_size _ rfl, rfl, rfl⟩, li.push _⟩ ⟨0, Nat.le_refl 0, setR_new_at first⟩ ?_
  intro t c mv hc full
  obtain ⟨h', g', d', tk', os'⟩ := t
  have g1 : g' = s.gens := mv.gens
  have d1 : d' = s.drawn := mv.drawn
  have o1 : os' = s.os := mv.os
  subst g1 d1 o1
  refine wpAny_pure (wpAny_pure (k h' tk' c ⟨full, by rw [← hz]; exact hc, fun b o e => ?_⟩))
  have hb1 : b < s.heap.objs.size := Heap.lt_size e
  refine mv.heap b o (fun z => ?_) (Heap.get?_push_of_some _ (Heap.get?_push_of_some _ e))
  rcases List.mem_cons.mp z with z | z
  · exact absurd z (Nat.ne_of_lt hb1)
  · have z := List.mem_singleton.mp z
    rw [Heap.size_push] at z
    exact absurd z (Nat.ne_of_lt (Nat.lt_succ_of_lt hb1))
/-- set(xs) of a list of ints -/
theorem set_ofL {l : Addr} {items : Array Value} {ns : List Int} {Q : Value → Shared → Prop} (hh : A.handled = none) (hl : s.heap.IsList l items) (hit : IntsAre items.toList ns) (hb : ns.length + 1 < scanBound)
    (k : ∀ (h' : Heap) (tk c : Nat), FullSet w ns s h' c → Q (.ref s.heap.objs.size) { s with heap := h', toks := tk }) : wpAny (model P w) A (call (.type "set") [.ref l]) Q E s := by
  obtain ⟨_, _, mro⟩ := F.called_set.mro
  have made := F.called_set.made
  have sub := F.called_set.sub
  have t1 := F.called_set.notType
  have t2 := F.called_set.canCreate
  have t3 := F.typeCall_set_1 (.ref l)
  refine wpAny_call (codeAny_of_tree ?_)
  show wpAny _ _ (callAny (.type "set") _) _ _ _
  refine wpAny_pure ⟨Code.quiet_builtin _ (by decide +kernel), codeAny_builtin F.entry_type_call ?_⟩
  rw [Around.under_plain (weight_type_call_type "set" [.ref l] []) rfl]
  repeat (any_goals (first | assumption | wp_step))
  refine codeAny_mono (code_set_led1 (.ref l) (E := E) (Q₁ := fun v t => v = .ref s.heap.objs.size ∧ t = { s with heap := s.heap.push (bareSet w) }) ⟨rfl, rfl⟩) fun r t hr => ?_
  cases r with
  | error e => exact hr
  | ok f => ?_
  cases f with
  | ret v => ?_
  | _ => exact hr.elim
  obtain ⟨rfl, rfl⟩ := hr
  have now : (s.heap.push (bareSet w)).get? s.heap.objs.size = some (bareSet w) := Heap.get?_push_size _ rfl
  have ty : Shared.TypeIs { s with heap := s.heap.push (bareSet w) } (.ref s.heap.objs.size) "set" := ⟨_, now, rfl⟩
  have look := F.called_set.init.lookup
  have bind := F.called_set.init.bind (.ref s.heap.objs.size)
  repeat (any_goals (first | assumption | wp_step))
  refine codeAny_mono (codeAny_call_builtin (R := wants (fun v t => v = .none ∧ ∃ h' tk c, t = { s with heap := h', toks := tk } ∧ FullSet w ns s h' c) E) F.called_set.init.plain F.entry_set_init (check_set_init_1 ty (fill_list (by simp [hh]) hl hit hb fun h' tk c q => ⟨rfl, h', tk, c, rfl, q⟩))) fun r t hr => ?_
  cases r with
  | error e => exact hr
  | ok f => ?_
  cases f with
  | ret v => ?_
  | _ => exact hr.elim
  obtain ⟨rfl, h', tk, c, rfl, q⟩ := hr
  repeat (any_goals (first | assumption | wp_step))
  exact k h' tk c q
/-- set(xs) as a rule of the layer -/
def rSetL (K : PySem.W.Frag) (w : World) : List V → Hp → VK → Prop := fun xs H Q => ∃ (l : Addr) (ns : List Int), xs = [V.ref l] ∧ SqL K H l (ns.map V.int) ∧ ns.length + 1 < scanBound ∧
  ∀ a c, H a = none → c ≤ ns.length → Q (.ref a) (upd H a (SetO w a (fun j => decide (j ∈ ns)) c))
theorem cr_setL {X : Cx} (hc : X.calm = true) : CallR X (.type "set") (rSetL X.K X.w) := by
  intro pins s σ H xs us Q I r h
  obtain ⟨l, ns, rfl, hl, hb, q⟩ := h
  rw [Vals.ref1 r]
  obtain ⟨its, rv, pl, hz⟩ := I.list hl
  have free : H s.heap.objs.size = none := I.hok.fresh (Nat.le_refl _)
  refine set_ofL (ns := ns) (I.ok.hd hc) pl.isList (by simpa using rv.ints) hb fun h' tk c ⟨f1, f2, f3⟩ => ?_
  exact ⟨.ref s.heap.objs.size, upd H s.heap.objs.size (SetO X.w s.heap.objs.size (fun j => decide (j ∈ ns)) c), I.laid (t' := tk) f3 (Nat.le_refl _) (setO_new f1), rfl, q _ c free f2⟩
end
/-- a block within a block -/
theorem blkOk_in {N : List Str} {sc0 sc scope : Scope} {own : List (Str × Nat)} (h : blkC N (relS sc sc0) scope own = true) : BlkOk N (relS sc sc0) scope own := blkOk_by h
/-! ### without doubles, ascending -/
def insU (x : Int) : List Int → List Int
  | [] => [x]
  | y :: r => if x < y then x :: y :: r else if x = y then y :: r else y :: insU x r
def sset : List Int → List Int
  | [] => []
  | x :: r => insU x (sset r)
theorem insU_mem (x : Int) : ∀ l k, k ∈ insU x l ↔ k = x ∨ k ∈ l
  | [], k => by simp [insU]
  | y :: r, k => by
    unfold insU
    split
    · simp
    · split
      · rename_i e
        subst e
        simp
      · simp only [List.mem_cons, insU_mem x r k]
        constructor
        · rintro (h | h | h) <;> simp [h]
        · rintro (h | h | h) <;> simp [h]
theorem insU_asc (x : Int) : ∀ l : List Int, l.Pairwise (· < ·) → (insU x l).Pairwise (· < ·)
  | [], _ => List.pairwise_singleton _ _
  | y :: r, h => by
    obtain ⟨h1, h2⟩ := List.pairwise_cons.mp h
    unfold insU
    split
    · rename_i c
      refine List.pairwise_cons.mpr ⟨fun z hz => ?_, h⟩
      rcases List.mem_cons.mp hz with rfl | hz
      · exact c
      · have := h1 z hz; omega
    · split
      · exact h
      · refine List.pairwise_cons.mpr ⟨fun z hz => ?_, insU_asc x r h2⟩
        rcases (insU_mem x r z).mp hz with rfl | hz
        · omega
        · exact h1 z hz
theorem sset_mem : ∀ l k, k ∈ sset l ↔ k ∈ l
  | [], k => by simp [sset]
  | x :: r, k => by rw [sset, insU_mem, sset_mem r k, List.mem_cons]
theorem sset_asc : ∀ l, (sset l).Pairwise (· < ·)
  | [] => .nil
  | x :: r => insU_asc x _ (sset_asc r)
theorem asc_one : ∀ xs ys : List Int, xs.Pairwise (· < ·) → ys.Pairwise (· < ·) → (∀ k, k ∈ xs ↔ k ∈ ys) → xs = ys
  | [], [], _, _, _ => rfl
  | [], y :: ys, _, _, h => absurd ((h y).mpr List.mem_cons_self) List.not_mem_nil
  | x :: xs, [], _, _, h => absurd ((h x).mp List.mem_cons_self) List.not_mem_nil
  | x :: xs, y :: ys, h1, h2, h => by
    obtain ⟨a1, a2⟩ := List.pairwise_cons.mp h1
    obtain ⟨b1, b2⟩ := List.pairwise_cons.mp h2
    have e : x = y := by
      rcases List.mem_cons.mp ((h x).mp List.mem_cons_self) with e | e
      · exact e
      · rcases List.mem_cons.mp ((h y).mpr List.mem_cons_self) with e2 | e2
        · exact e2.symm
        · have := b1 x e
          have := a1 y e2
          omega
    subst e
    rw [asc_one xs ys a2 b2 fun k => ?_]
    have hk := h k
    rw [List.mem_cons, List.mem_cons] at hk
    constructor
    · intro m
      rcases hk.mp (.inr m) with rfl | q
      · exact absurd (a1 _ m) (Int.lt_irrefl _)
      · exact q
    · intro m
      rcases hk.mpr (.inr m) with rfl | q
      · exact absurd (b1 _ m) (Int.lt_irrefl _)
      · exact q
def sortSetD : List PyData → Option PyData
  | [.list ds] => (intsOf ds).bind fun ns => if ns.length < 60 then some (.list ((sset ns).map .int)) else none
  | _ => none
def rSS (K : PySem.W.Frag) (w : World) : List V → Hp → VK → Prop := fun us H Q => rSetL K w us H fun v H1 => rSortedSet w [v] H1 Q
theorem d_sortSet {K : PySem.W.Frag} {w : World} : CaD K (rSS K w) sortSetD := fun F H us xs z Q s r e h => by
  unfold sortSetD at e
  split at e
  · obtain ⟨ns, e1, e2⟩ := Option.bind_eq_some_iff.mp e
    split at e2
    · rename_i c
      cases e2
      obtain ⟨u, rfl, ru⟩ := r.one
      rw [intsOf_eq e1] at ru
      obtain ⟨a, vs, rfl, h1, d1⟩ := ru.list s
      rw [d1.ints] at h1
      refine ⟨a, ns, rfl, SqL.of h1, by unfold scanBound; omega, fun p n hp hn => ?_⟩
      have g := Grow.new (o := SetO w p (fun j => decide (j ∈ ns)) n) s hp
      refine ⟨p, _, n, rfl, upd_same, by omega, fun out t asc mem _ ht => ?_⟩
      have eo : out = sset ns := asc_one _ _ asc (sset_asc ns) fun k => by rw [mem, sset_mem]; simp
      have g2 := Grow.new (o := .lst (out.map V.int)) g.sub ht
      refine h _ _ _ (g.trans g2) (.lst upd_same ?_)
      rw [eo]
      exact DqAll.of_ints _
    · cases e2
  · cases e
section
variable {X : Cx} {W : WX} {a b c e o : Expr} {es : List Expr} {fa fb fo : DE} {la : DL} {pos p p2 q : Pos}
theorem q_sortSet (hc : X.calm = true) (hm : X.mg "sorted" = none) (hm2 : X.mg "set" = none) (ha : QE X W a fa) (hg : Gl X "sorted" := by rfl) (hg2 : Gl X "set" := by rfl)
    (he : starEach [Expr.Call (.Name "set" p2) [a] [] q] X.env = (false, eval (Expr.Call (.Name "set" p2) [a] [] q) X.env) :: starEach [] X.env := by rfl) (hpl : (backTo pos (starEach [] X.env)).any (·.1) = false := by rfl)
    (he2 : starEach [a] X.env = (false, eval a X.env) :: starEach [] X.env := by rfl) (hpl2 : (backTo q (starEach [] X.env)).any (·.1) = false := by rfl) :
    QE X W (.Call (.Name "sorted" p) [.Call (.Name "set" p2) [a] [] q] [] pos) (blt sortSetD (consL fa nilL)) := by
  have h1 : PE X (.Call (.Name "set" p2) [a] [] q) (tCB (rSetL X.K X.w) (tL X.K X.mg W (consL fa nilL))) := pe_callTy (cr_setL hc) hg2 hm2 PyProof.Rows.boot_set (a_cons ha a_nil he2) (by decide) (by decide) he2 hpl2
  have h2 : PE X (.Call (.Name "sorted" p) [.Call (.Name "set" p2) [a] [] q] [] pos) (tCB (rSortedSet X.w) (tCons (tCB (rSetL X.K X.w) (tL X.K X.mg W (consL fa nilL))) tNil)) := pe_callB (cr_sortedSet hc) hg hm PyProof.Rows.boot_sorted (pa_cons h1 pa_nil he) (by decide) (by decide) he hpl
  exact q_blt (r := rSS X.K X.w) d_sortSet h2
end
end DV
set_option Elab.async false
set_option linter.all false
set_option maxRecDepth 100000
set_option maxHeartbeats 4000000
namespace DV
open PySem PySem.Spec PyProof.Rows L2 HotX
section
variable {prog : Program} {w : World} {A : Around} {E : Value → Shared → Prop} {s : Shared}
/-- StopIteration() is raised: the handled one becomes its context -/
theorem stop_hot {α : Type} {x1 : Addr} {Q : α → Shared → Prop} (hot : HotAt A x1 s.heap)
    (k : ∀ (h' : Heap) (a : Addr), (∀ b o, s.heap.get? b = some o → h'.get? b = some o) → Shared.TypeIs { s with heap := h' } (.ref a) "StopIteration" → E (.ref a) { s with heap := h' }) :
    wpAny (model prog w) A (newExc (.type "StopIteration") [] >>= fun e => (raiseNew e : Sem α)) Q E s := by
  obtain ⟨hh, o1, vs1, h1, d1, c1⟩ := hot
  refine wpAny_bind ?_
  simp only [newExc, newTuple]
  refine wpAny_bind (wpAny_newObj_type ?_ (by size_fits))
  refine wpAny_bind (m := firstArgMember _ _) (wpAny_of_eq (a := Value.none) (by first | rfl | (simp only [firstArgMember]; rfl)) ?_)
  refine wpAny_newObj_type ?_ (by size_fits)
  have old := Heap.get?_push_of_some { cls := .type "tuple", data := .seq ([] : List Value).toArray } h1
  refine raiseNew_hot ⟨hh, o1, vs1, Heap.get?_push_of_some _ old, d1, c1⟩ (Nat.ne_of_lt (Heap.lt_size old)) (Heap.get?_push_size _ rfl) rfl (by first | (simp; done) | (simp; omega) | (simp only [Array.size_append]; simp; omega)) ?_
  refine k _ _ (fun b o e => ?_) ⟨_, Heap.get?_update_self _ (Heap.get?_push_size _ rfl) rfl, rfl⟩
  have e2 := Heap.get?_push_of_some { cls := .type "tuple", data := .seq ([] : List Value).toArray } e
  rw [Heap.get?_update_other _ _ (Nat.ne_of_gt (Heap.lt_size e2))]
  exact Heap.get?_push_of_some _ e2
/-- what stays behind the end of an iterator -/
abbrev EndAt (s : Shared) (it : Addr) (h' : Heap) : Prop := ∀ b o, b ≠ it → s.heap.get? b = some o → h'.get? b = some o
theorem hot_kept {x1 it : Addr} {h h' : Heap} (hot : HotAt A x1 h) (hne : x1 ≠ it) (k : ∀ b o, b ≠ it → h.get? b = some o → h'.get? b = some o) : HotAt A x1 h' := by
  obtain ⟨hh, o1, vs1, h1, d1, c1⟩ := hot
  exact ⟨hh, o1, vs1, k _ _ hne h1, d1, c1⟩
/-- an iterator's object bears two fields, a handled exception more -/
theorem hot_ne {x1 it : Addr} {u v : Value} {h : Heap} {o : Obj} (hot : HotAt A x1 h) (ho : h.get? it = some o) (hd : o.data = .fields #[u, v]) : x1 ≠ it := by
  obtain ⟨_, o1, vs1, h1, d1, c1⟩ := hot
  rintro rfl
  rw [ho] at h1
  cases h1
  rw [hd] at d1
  cases d1
  cases c1
theorem listEnd_hot {x1 it l : Addr} {i : Nat} {items : Array Value} {Q : Option Value → Shared → Prop} (hot : HotAt A x1 s.heap) (hit : s.heap.IsListIter it l i) (hl : s.heap.IsList l items) (hx : items[i]? = none)
    (k : ∀ h', EndAt s it h' → Q none { s with heap := h' }) : wpAny (model prog w) A (pyNext (.ref it)) Q E s := by
  obtain ⟨o, ho, hc, hd⟩ := id hit
  obtain ⟨ol, hol, _, nl, hdl⟩ := hl
  have ne := hot_ne hot ho hd
  unfold pyNext
  refine wpAny_bind (wpAny_attempt (wpAny_callSpecial?_slot (name := Str.ofString "__next__") hit.typeIs slot_listiter_next
    (wpAny_call_entry slot_listiter_next hit.typeIs entry_listiter_next ?_ (args_listiter_next _))))
  show wpAny _ _ (field (.ref it) 0 >>= _) _ _ s
  refine wpAny_bind (wpAny_field ho hd (x := .ref l) rfl ?_)
  show wpAny _ _ (if (Value.ref l == Value.none) = true then _ else _) _ _ s
  rw [if_neg (show ¬ ((Value.ref l == Value.none) = true) from Bool.false_ne_true)]
  show wpAny _ _ (field (.ref it) 1 >>= _) _ _ s
  refine wpAny_bind (wpAny_field ho hd (x := .int i 0) rfl ?_)
  show wpAny _ _ (seqItems? (.ref l) >>= _) _ _ s
  refine wpAny_bind (wpAny_seqItems hol hdl ?_)
  simp only [Int.toNat_natCast, hx]
  refine wpAny_bind (wpAny_rule (wpAny_bind (wpAny_setField ho hd (by simp) ?_)))
  refine stop_hot (hot_kept (it := it) hot ne fun b o hb e => (Heap.SameBut.update ..).extBut b o hb e) fun h' a old ty => ?_
  refine wpAny_bind (wpAny_isInstance (T := "StopIteration") (b := true) ty isSubtype_stop ?_)
  exact wpAny_pure (k h' fun b o hb e => old b o ((Heap.SameBut.update ..).extBut b o hb e))
theorem tupleEnd_hot {x1 it l : Addr} {i : Nat} {items : Array Value} {Q : Option Value → Shared → Prop} (hot : HotAt A x1 s.heap) (hit : s.heap.IsTupleIter it l i) (hl : s.heap.IsTuple l items) (hx : items[i]? = none)
    (k : ∀ h', EndAt s it h' → Q none { s with heap := h' }) : wpAny (model prog w) A (pyNext (.ref it)) Q E s := by
  obtain ⟨o, ho, hc, hd⟩ := id hit
  obtain ⟨ol, hol, _, nl, hdl⟩ := hl
  have ne := hot_ne hot ho hd
  unfold pyNext
  refine wpAny_bind (wpAny_attempt (wpAny_callSpecial?_slot (name := Str.ofString "__next__") hit.typeIs F.slot_tuple_iterator_next
    (wpAny_call_entry F.slot_tuple_iterator_next hit.typeIs F.entry_tuple_iterator_next ?_ (F.args_tuple_iterator_next_1 _))))
  show wpAny _ _ (field (.ref it) 0 >>= _) _ _ s
  refine wpAny_bind (wpAny_field ho hd (x := .ref l) rfl ?_)
  show wpAny _ _ (if (Value.ref l == Value.none) = true then _ else _) _ _ s
  rw [if_neg (show ¬ ((Value.ref l == Value.none) = true) from Bool.false_ne_true)]
  show wpAny _ _ (field (.ref it) 1 >>= _) _ _ s
  refine wpAny_bind (wpAny_field ho hd (x := .int i 0) rfl ?_)
  show wpAny _ _ (seqItems? (.ref l) >>= _) _ _ s
  refine wpAny_bind (wpAny_seqItems hol hdl ?_)
  simp only [Int.toNat_natCast, hx]
  refine wpAny_bind (wpAny_rule (wpAny_bind (wpAny_setField ho hd (by simp) ?_)))
  refine stop_hot (hot_kept (it := it) hot ne fun b o hb e => (Heap.SameBut.update ..).extBut b o hb e) fun h' a old ty => ?_
  refine wpAny_bind (wpAny_isInstance (T := "StopIteration") (b := true) ty isSubtype_stop ?_)
  exact wpAny_pure (k h' fun b o hb e => old b o ((Heap.SameBut.update ..).extBut b o hb e))
end
end DV
set_option Elab.async false
set_option linter.all false
set_option maxRecDepth 100000
set_option maxHeartbeats 4000000
namespace DV
open PySem PySem.Spec PyProof.Rows L2 HotX
section
variable {prog : Program} {w : World} {A : Around} {E : Value → Shared → Prop} {s : Shared}
theorem unpackItems_hot {x1 t : Addr} {items : Array Value} {Q : List Value → Shared → Prop} (hot : HotAt A x1 s.heap) (ht : s.heap.IsTuple t items)
    (k : ∀ h', EndAt s s.heap.objs.size h' → Q items.toList { s with heap := h' }) : wpAny (model prog w) A (unpackItems (.ref t) items.size none) Q E s := by
  have ne : t ≠ s.heap.objs.size := by
    obtain ⟨o, ho, _⟩ := ht
    exact Nat.ne_of_lt (Heap.lt_size ho)
  unfold unpackItems notIterableAtAll
  refine wpAny_bind (wpAny_bind (wpAny_specialOf ht.typeIs F.slot_tuple_iter.lookup (wpAny_pure ?_)))
  simp only [Bool.false_eq_true, if_false]
  refine wpAny_bind (wpAny_holding (wpAny_pyIter_tuple ht ?_))
  refine wpAny_bind (wpAny_holding (wpAny_draw_tuple ne items.size 0 _ _ ⟨_, Heap.get?_push_size _ rfl, rfl, rfl⟩ (ht.push _) (by omega) fun h1 it1 sb1 => ?_))
  have whole : List.take items.size (List.drop 0 items.toList) = items.toList := by rw [List.drop_zero]; exact List.take_of_length_le (by simp)
  rw [whole, if_neg (by simp)]
  have ht1 : h1.IsTuple t items := (ht.push _).extBut sb1.extBut ne
  have hot1 : HotAt A x1 h1 := by
    obtain ⟨hh, o1, vs1, g1, d1, c1⟩ := hot
    exact ⟨hh, o1, vs1, sb1.extBut _ _ (Nat.ne_of_lt (Heap.lt_size g1)) (Heap.get?_push_of_some _ g1), d1, c1⟩
  refine wpAny_bind (wpAny_holding (tupleEnd_hot (s := { s with heap := h1 }) hot1 it1 ht1 (by simp) fun h2 en => ?_))
  simp only [Option.isSome_none, Bool.false_eq_true, if_false]
  exact wpAny_pure (k h2 fun b o hb e => en b o hb (sb1.extBut b o hb (Heap.get?_push_of_some _ e)))
theorem assignTuple_hot {x1 t : Addr} {env : Env} {elts : List Expr} {n : Nat} {pos : Pos} {items : Array Value} {Q : Unit → Shared → Prop} (hot : HotAt A x1 s.heap) (ht : s.heap.IsTuple t items)
    (hn : (assignEach elts env).length = items.size) (hs : (assignEach elts env).findIdx? (·.1) = none)
    (k : ∀ h', EndAt s s.heap.objs.size h' → wpAny (model prog w) A (assignInOrder ((assignEach elts env).map (·.2)) items.toList) Q E { s with heap := h' }) :
    wpAny (model prog w) A (assign (.Tuple elts n pos) env (.ref t)) Q E s := by
  rw [arm_assign_Tuple]
  refine wpAny_bind (wpAny_standAt ?_)
  unfold unpack
  rw [hn, hs]
  exact wpAny_bind (wpAny_holding (unpackItems_hot hot ht k))
/-- a list's iterator while x1 is handled, as a walk -/
theorem Walks.listHot {x1 : Addr} {o1 : Obj} {vs1 : Array Value} (hh : A.handled = some (.ref x1)) (d1 : o1.data = .fields vs1) (c1 : vs1[2]? = some .none) (I ax : Addr) (hne : ax ≠ I) (items : Array Value) :
    Walks prog w A I [I, ax, x1] [I] items.size (fun i v => items[i]? = some v) (fun i h => h.IsListIter I ax i ∧ h.IsList ax items ∧ h.get? x1 = some o1) where
  sub := fun b hb => by simp at hb; simp [hb]
  frame := fun i h h' st hk => ⟨st.1.at fun o e => hk I (by simp) o e, st.2.1.at fun o e => hk ax (by simp) o e, hk x1 (by simp) _ st.2.2⟩
  item := fun i s Q E hi st hQ => by
    have ne : x1 ≠ I := by
      obtain ⟨o, ho, _, hd⟩ := st.1
      exact hot_ne (A := A) ⟨hh, o1, vs1, st.2.2, d1, c1⟩ ho hd
    refine wpAny_pyNext_list_item st.1 st.2.1 (x := items[i]) (by simp [hi]) fun h' hit' hs' => ?_
    exact hQ _ h' s.toks (by simp [hi]) ⟨hit', st.2.1.extBut hs'.extBut hne, hs'.extBut _ _ ne st.2.2⟩ fun b o hb e => hs'.extBut b o (fun h => hb (by simp [h])) e
  done := fun s Q E st hQ => listEnd_hot ⟨hh, o1, vs1, st.2.2, d1, c1⟩ st.1 st.2.1 (by simp) fun h' en => hQ h' s.toks fun b o hb e => en b o (fun h => hb (by simp [h])) e
  self := fun _ _ _ _ st hQ => wpAny_pyIter_listiter st.1 hQ
theorem max_hot {x1 l : Addr} {xs : Array (Int × Tok)} {Q : Value → Shared → Prop} (hot : HotAt A x1 s.heap) (hl : s.heap.IsList l (intItems xs)) (hne : 0 < xs.size)
    (h : ∀ v h' tk, (intItems xs)[argBest (fun i j => decide (numAt xs i > numAt xs j)) (xs.size - 1)]? = some v → (∀ b o, s.heap.get? b = some o → h'.get? b = some o) → Q v { s with heap := h', toks := tk }) :
    wpAny (model prog w) A (call (.builtin "max") [.ref l]) Q E s := by
  obtain ⟨hh, o1, vs1, g1, d1, c1⟩ := hot
  refine call_max_walk (iter_intList hl fun s2 e st hfp hlI => ?_)
  subst e
  refine ⟨_, _, _, _, _, _, _, rfl, Walks.listHot (A := A.in1) (x1 := x1) (o1 := o1) (vs1 := vs1) hh d1 c1 _ l hlI (intItems xs), ⟨st.1, st.2, Heap.get?_push_of_some _ g1⟩, ?_, by simpa [intItems] using hne, CmpOf.ints_gt (numAt xs) (fun _ _ => intItems_at), fun v h' tk hP hk => ?_⟩
  · intro b hb
    rcases List.mem_cons.mp hb with rfl | hb
    · exact hfp _ (by simp)
    · rcases List.mem_cons.mp hb with rfl | hb
      · exact hfp _ (by simp)
      · rw [List.mem_singleton.mp hb]
        exact Heap.lt_size (Heap.get?_push_of_some _ g1)
  · exact h v h' tk (by simpa [intItems] using hP) (old_kept hk)
end
end DV
set_option Elab.async false
set_option linter.all false
set_option maxRecDepth 100000
set_option maxHeartbeats 4000000
namespace DV
open PySem PySem.Spec PyProof.Rows L2 HotX L2H
abbrev HSt := L2.St
/-- wherever the context stands, the handled exception stands apart -/
def HotD (X : Cx) : Prop := ∀ (pins : List (Addr × Obj)) (σ : HSt) (H : Hp) (s : Shared), Inv X pins σ H s → ∃ p : Addr × Obj, Hot1 X.A p ∧ s.heap.get? p.1 = some p.2 ∧ H p.1 = none ∧ p.1 ≠ X.env.locals ∧ p.1 ∉ X.fs
theorem HotD.ofC {X : Cx} (c : HotC X) : HotD X := fun pins σ H s I => by
  obtain ⟨p, h1, hp⟩ := c
  have q := I.pin p (List.mem_append_left _ hp)
  exact ⟨p, h1, q.1, q.2.1, q.2.2.1, q.2.2.2.1⟩
theorem HotD.at {X : Cx} (D : HotD X) {pins : List (Addr × Obj)} {σ : HSt} {H : Hp} {s : Shared} (I : Inv X pins σ H s) : ∃ x1, HotAt X.A x1 s.heap := by
  obtain ⟨p, ⟨hh, v1, e1, c1⟩, g, _⟩ := D pins σ H s I
  exact ⟨p.1, hh, p.2, v1, g, e1, c1⟩
/-- an object that is no exception handled -/
def NoExc (o : Obj) : Prop := ∀ vs, o.data = .fields vs → vs[2]? ≠ some .none
structure TurnA (P : Program) (w : World) (K : PySem.W.Frag) (tg : Expr) (J : It) (fp : List Addr) (it : Addr) (tn : Nat → Heap → Prop) : Prop where
  obj : ∀ i h, tn i h → ∀ b ∈ fp, ∃ o, h.get? b = some o ∧ (∀ v, o.data ≠ .cell v) ∧ NoExc o
  keep : ∀ i h h', tn i h → (∀ b ∈ fp, ∀ o, h.get? b = some o → h'.get? b = some o) → tn i h'
  item : ∀ (X : Cx), X.prog = P → X.w = w → X.K = K → ∀ (i : Nat) (pins : List (Addr × Obj)) (s : Shared) (σ : HSt) (H : Hp) (E : Value → Shared → Prop), Inv X pins σ H s → (∀ b ∈ fp, FpOk X pins H b) → tn i s.heap → J.go i H →
    wpAny (model P w) X.A (pyNext (.ref it)) (fun r s1 => ∃ u, r = some u ∧
      wpAny (model P w) X.A (letOwnedTupleGo tg (.ref it) u) (fun _ s2 => ∃ x H', Inv X pins σ H' s2 ∧ RelV x u ∧ J.yld i H x H' ∧ tn (i + 1) s2.heap ∧ ∀ b ∈ fp, H' b = none) E s1) E s
  done : ∀ (X : Cx), X.prog = P → X.w = w → X.K = K → ∀ (i : Nat) (pins : List (Addr × Obj)) (s : Shared) (σ : HSt) (H : Hp) (E : Value → Shared → Prop), (∃ x1, HotAt X.A x1 s.heap) → Inv X pins σ H s → (∀ b ∈ fp, FpOk X pins H b) → tn i s.heap → J.stop i H →
    wpAny (model P w) X.A (pyNext (.ref it)) (fun r s1 => r = none ∧ Inv X pins σ H s1) E s
  self : ∀ (A : Around) (i : Nat) (s : Shared) (Q : Value → Shared → Prop) (E : Value → Shared → Prop), tn i s.heap → Q (.ref it) s → wpAny (model P w) A (pyIter (.ref it)) Q E s
theorem noExc2 {o : Obj} {u v : Value} (h : o.data = .fields #[u, v]) : NoExc o := fun vs e => by
  rw [h] at e
  cases e
  intro z
  cases z
section
variable {P : Program} {w : World} {K : PySem.W.Frag} {tg : Expr} {a it : Addr}
theorem walkL : TurnA P w K tg (Itl K a) [it] it (fun i h => h.IsListIter it a i) where
  obj i h st b hb := by
    rw [List.mem_singleton.mp hb]
    obtain ⟨o, e, _, d⟩ := st
    exact ⟨o, e, (fun v z => by rw [d] at z; cases z), noExc2 d⟩
  keep i h h' st k := st.at fun o e => k it (List.mem_singleton.mpr rfl) o e
  item := by
    intro X hP hw hK i pins s σ H E I hf st ⟨xs, x, hq, hx⟩
    subst hP hw hK
    obtain ⟨its, rv, p, _⟩ := I.list hq
    obtain ⟨u, hu, ru⟩ := rv.get hx
    obtain ⟨f0, f1, f2, f3, f4, f5⟩ := hf it (List.mem_singleton.mpr rfl)
    refine wpAny_pyNext_list_item st p.isList (x := u) (by simpa using hu) fun h' st' sb => ?_
    have J : Inv X pins σ H { s with heap := h' } := I.turned (t' := s.toks) (fun b o hb e => (sb.2 b hb).trans e) f0 f1 f3 f4 f5
    obtain ⟨o, e, c, d⟩ := id st'
    refine ⟨u, rfl, go_of (s := { s with heap := h' }) e c d (by decide) ⟨x, H, J, ru, ⟨rfl, fun ys hy => ?_⟩, st', fun b hb => (hf b hb).1⟩⟩
    rw [I.list_inj hy hq]
    exact hx
  done := by
    intro X hP hw hK i pins s σ H E ⟨x1, hot⟩ I hf st ⟨xs, hq, hx⟩
    subst hP hw hK
    obtain ⟨its, rv, p, _⟩ := I.list hq
    obtain ⟨f0, f1, f2, f3, f4, f5⟩ := hf it (List.mem_singleton.mpr rfl)
    have hl := rv.length
    exact listEnd_hot hot st p.isList (by simp; omega) fun h' en => ⟨rfl, I.turned (t' := s.toks) (fun b o hb e => en b o hb e) f0 f1 f3 f4 f5⟩
  self _ _ _ _ _ st h := wpAny_pyIter_listiter st h
theorem walkT : TurnA P w K tg (Itt K a) [it] it (fun i h => h.IsTupleIter it a i) where
  obj i h st b hb := by
    rw [List.mem_singleton.mp hb]
    obtain ⟨o, e, _, d⟩ := st
    exact ⟨o, e, (fun v z => by rw [d] at z; cases z), noExc2 d⟩
  keep i h h' st k := st.at fun o e => k it (List.mem_singleton.mpr rfl) o e
  item := by
    intro X hP hw hK i pins s σ H E I hf st ⟨xs, x, hq, hx⟩
    subst hP hw hK
    obtain ⟨its, rv, p, _⟩ := I.tuple hq
    obtain ⟨u, hu, ru⟩ := rv.get hx
    obtain ⟨f0, f1, f2, f3, f4, f5⟩ := hf it (List.mem_singleton.mpr rfl)
    refine wpAny_pyNext_tuple_item st (show s.heap.IsTuple a its.toArray from p) (x := u) (by simpa using hu) fun h' st' sb => ?_
    have J : Inv X pins σ H { s with heap := h' } := I.turned (t' := s.toks) (fun b o hb e => (sb.2 b hb).trans e) f0 f1 f3 f4 f5
    obtain ⟨o, e, c, d⟩ := id st'
    refine ⟨u, rfl, go_of (s := { s with heap := h' }) e c d (by decide) ⟨x, H, J, ru, ⟨rfl, fun ys hy => ?_⟩, st', fun b hb => (hf b hb).1⟩⟩
    rw [I.tuple_inj hy hq]
    exact hx
  done := by
    intro X hP hw hK i pins s σ H E ⟨x1, hot⟩ I hf st ⟨xs, hq, hx⟩
    subst hP hw hK
    obtain ⟨its, rv, p, _⟩ := I.tuple hq
    obtain ⟨f0, f1, f2, f3, f4, f5⟩ := hf it (List.mem_singleton.mpr rfl)
    have hl := rv.length
    exact tupleEnd_hot hot st (show s.heap.IsTuple a its.toArray from p) (by simp; omega) fun h' en => ⟨rfl, I.turned (t' := s.toks) (fun b o hb e => en b o hb e) f0 f1 f3 f4 f5⟩
  self _ _ _ _ _ st h := wpAny_pyIter_tupleiter st h
end
def PIEA (X : Cx) (pins : List (Addr × Obj)) (σ : HSt) (tg : Expr) (R : It → Hp → Prop) (itv : Value) (s2 : Shared) : Prop :=
  ∃ (it : Addr) (fp : List Addr) (tn : Nat → Heap → Prop) (J : It) (H' : Hp), itv = .ref it ∧ it ∈ fp ∧ Inv X pins σ H' s2 ∧ TurnA X.prog X.w X.K tg J fp it tn ∧ tn 0 s2.heap ∧ (∀ b ∈ fp, FpOk X pins H' b) ∧ R J H'
structure PIA (X : Cx) (tg iter : Expr) (wi : TI) : Prop where
  run : ∀ (pins : List (Addr × Obj)) (s : Shared) (σ : HSt) (H : Hp) (R : It → Hp → Prop), Inv X pins σ H s → wi σ H R →
    wpAny (model X.prog X.w) X.A (eval iter X.env) (fun v s1 => wpAny (model X.prog X.w) X.A (pyIter v) (PIEA X pins σ tg R) X.xe s1) X.xe s
theorem PIA.toH {X : Cx} {tg iter : Expr} {wi : TI} (h : PIA X tg iter wi) : PIH X tg iter wi := ⟨fun pins s σ H R I q => thn (h.run pins s σ H R I q) fun v s1 h1 => thn h1 fun itv s2 ⟨it, fp, tn, J, H', e, hm, I2, T, st, hf, r⟩ =>
  ⟨it, fp, tn, J, H', e, I2, ⟨hm, fun i h st b hb => by obtain ⟨o, e, n, _⟩ := T.obj i h st b hb; exact ⟨o, e, n⟩, T.keep, fun X' a b c _ => T.item X' a b c, fun X' a b c hc i pins s σ H E I => T.done X' a b c i pins s σ H E (hc.at I) I, T.self⟩, st, hf, r⟩⟩
theorem pia_list {X : Cx} {tg l : Expr} {tl : TE} (hl : PE X l tl) : PIA X tg l (iList X.K tl) := ⟨fun pins s σ H R I h => by
  refine thn (hl.run pins s σ H _ I h) fun v s1 ⟨x, H1, I1, r1, a, e, ⟨xs, hq⟩, q⟩ => ?_
  subst e
  cases r1
  obtain ⟨its, rv, p, _⟩ := I1.list hq
  refine wpAny_pyIter_list p.isList ⟨s1.heap.objs.size, [s1.heap.objs.size], _, _, H1, rfl, List.mem_singleton.mpr rfl, I1.kept (t' := s1.toks) fun b o e => Heap.get?_push_of_some _ e, walkL (a := a), ⟨_, Heap.get?_push_size _ rfl, rfl, rfl⟩, fun b hb => ?_, q⟩
  rw [List.mem_singleton.mp hb]
  exact I1.fpOk (Nat.le_refl _) (I1.hok.fresh (Nat.le_refl _))⟩
theorem pia_tup {X : Cx} {tg l : Expr} {tl : TE} (hl : PE X l tl) : PIA X tg l (iTup X.K tl) := ⟨fun pins s σ H R I h => by
  refine thn (hl.run pins s σ H _ I h) fun v s1 ⟨x, H1, I1, r1, a, e, ⟨xs, hq⟩, q⟩ => ?_
  subst e
  cases r1
  obtain ⟨its, rv, p, _⟩ := I1.tuple hq
  refine wpAny_pyIter_tuple (show s1.heap.IsTuple a its.toArray from p) ⟨s1.heap.objs.size, [s1.heap.objs.size], _, _, H1, rfl, List.mem_singleton.mpr rfl, I1.kept (t' := s1.toks) fun b o e => Heap.get?_push_of_some _ e, walkT (a := a), ⟨_, Heap.get?_push_size _ rfl, rfl, rfl⟩, fun b hb => ?_, q⟩
  rw [List.mem_singleton.mp hb]
  exact I1.fpOk (Nat.le_refl _) (I1.hok.fresh (Nat.le_refl _))⟩
end DV
set_option Elab.async false
set_option linter.all false
set_option maxRecDepth 100000
set_option maxHeartbeats 4000000
namespace DV
open PySem PySem.Spec PyProof.Rows L2 HotX L2H
section
variable {X : Cx}
/-- the handled exception stands apart from a block within, too -/
theorem HotD.blk (D : HotD X) {pins : List (Addr × Obj)} {σ : HSt} {H : Hp} {s : Shared} (I : Inv X pins σ H s) {scope : Scope} {ce : Env} {fp : List Addr} (hl : ce.locals = s.heap.objs.size)
    (sep : ∀ b ∈ fp, ∃ o, s.heap.get? b = some o ∧ NoExc o) : HotD (X.blk s H scope ce fp) := fun pins' σ' H' s' J => by
  obtain ⟨p, h1, g, hf, nl, nf⟩ := D pins σ H s I
  have ns : p.1 ∉ frs X.stack := fun hm => (List.mem_cons.mp (I.stkSub p.1 hm)).elim nl nf
  have nx : p.1 ∉ fp := fun hm => by
    obtain ⟨o, e, ne⟩ := sep _ hm
    obtain ⟨_, vs, d, c⟩ := h1
    rw [g] at e
    cases e
    exact ne vs d c
  refine ⟨p, h1, J.base.keep _ _ g hf ns nx, J.base.free _ _ g hf nx, ?_, ns⟩
  show p.1 ≠ ce.locals
  rw [hl]
  exact Nat.ne_of_lt (Heap.lt_size g)
theorem pe_lcA {elt tg iter : Expr} {ifs : List Expr} {scope : Scope} {own : List (Str × Nat)} {pos : Pos} {wi : TI} {g : TG} {tt : TT} {te : TE} (D : HotD X) (hN : X.N.Nodup) (hi : PIA X tg iter wi) (ok : BlkOk X.N X.env.scope scope own)
    (hg : ∀ (s : Shared) (H : Hp) (C : Addr) (cl : List (Str × Addr)) (fp : List Addr), HotD (X.blk s H scope (compEnvC scope cl C X.env) fp) → PG (X.blk s H scope (compEnvC scope cl C X.env) fp) tg g)
    (ht : ∀ (s : Shared) (H : Hp) (C : Addr) (cl : List (Str × Addr)) (fp : List Addr), HotD (X.blk s H scope (compEnvC scope cl C X.env) fp) → PTs (X.blk s H scope (compEnvC scope cl C X.env) fp) ifs tt)
    (he : ∀ (s : Shared) (H : Hp) (C : Addr) (cl : List (Str × Addr)) (fp : List Addr), HotD (X.blk s H scope (compEnvC scope cl C X.env) fp) → PE (X.blk s H scope (compEnvC scope cl C X.env) fp) elt te) (hs : ∀ x, foldedSetIterable iter X.env x = pure x) :
    PE X (.ListComp elt [⟨tg, iter, ifs, 0⟩] scope pos) (tLc wi g tt te (own.map (·.2))) := by
  refine ⟨fun pins s σ H Q I h => ?_⟩
  rw [eval_ListComp]
  have caught : ∀ y ∈ scope.names, y.2 = .free → ∃ c, X.env.cells.lookup y.1 = some c := fun y hy e => (ok.free y hy e).elim (fun k => I.ok.has _ (.inl k)) fun k => I.ok.has _ (.inr k)
  refine wpAny_comprehension_free rfl hs (closure_ok caught) ok.kind (fun y hy e => by rw [ok.uniq y hy, e]) (thn (hi.run pins s σ H _ I h) fun xv s1 hx => thn hx fun itv s2 h2 => ?_)
  obtain ⟨it, fp, tn, J, H2, e, hm, I2, T, st2, f2, q⟩ := h2
  subst e
  refine wpAny_newObj_type (newEnv_comp ?_) (by show 0 ≤ sizeLine; decide)
  -- the new list at L
  generalize hL : s2.heap.objs.size = L
  have freeL : H2 L = none := I2.hok.fresh (Nat.le_of_eq hL)
  obtain ⟨W, ⟨m0, w0⟩, turn⟩ := q L freeL
  generalize es3 : ({ s2 with heap := s2.heap.push { cls := .type "list", data := .seq ([] : List Value).toArray } } : Shared) = s3
  have hp3 : s3.heap = s2.heap.push { cls := .type "list", data := .seq ([] : List Value).toArray } := by rw [← es3]
  have up3 : ∀ b o, s2.heap.get? b = some o → s3.heap.get? b = some o := fun b o e => by rw [hp3]; exact Heap.get?_push_of_some _ e
  have I3 : Inv X pins σ (upd H2 L (.lst [])) s3 := by
    rw [← es3]
    refine I2.laid (t' := s2.toks) (fun b o e => Heap.get?_push_of_some _ e) (Nat.le_of_eq hL) ⟨Nat.zero_le _, [], 0, .nil, ?_⟩
    rw [← hL]
    exact Heap.get?_push_size _ rfl
  have lt2 : ∀ b ∈ fp, b < s2.heap.objs.size := fun b hb => (T.obj _ _ st2 b hb).elim fun o e => Heap.lt_size e.1
  have f3 : ∀ b ∈ fp, FpOk X pins (upd H2 L (.lst [])) b ∧ b < s3.heap.objs.size := fun b hb => by
    have lt := lt2 b hb
    refine ⟨⟨?_, (f2 b hb).2⟩, by rw [hp3, Heap.size_push]; exact Nat.lt_succ_of_lt lt⟩
    rw [upd_ne (by rw [← hL]; exact Nat.ne_of_lt lt)]
    exact (f2 b hb).1
  have st3 : tn 0 s3.heap := T.keep _ _ _ st2 fun b _ o e => up3 b o e
  have I4 := block_start I3 ok hN f3
  have D4 := D.blk I3 (scope := scope) (ce := compEnvC scope (cellsFrom (s3.heap.objs.size + 1) scope.names (cloFrom X.env.cells scope.names [])) s3.heap.objs.size X.env) (fp := fp) rfl fun b hb => (T.obj _ _ st3 b hb).elim fun o e => ⟨o, e.1, e.2.2⟩
  have pg := hg s3 (upd H2 L (.lst [])) s3.heap.objs.size (cellsFrom (s3.heap.objs.size + 1) scope.names (cloFrom X.env.cells scope.names [])) fp D4
  have pt := ht s3 (upd H2 L (.lst [])) s3.heap.objs.size (cellsFrom (s3.heap.objs.size + 1) scope.names (cloFrom X.env.cells scope.names [])) fp D4
  have pe := he s3 (upd H2 L (.lst [])) s3.heap.objs.size (cellsFrom (s3.heap.objs.size + 1) scope.names (cloFrom X.env.cells scope.names [])) fp D4
  have away : ∀ b ∈ fp, (upd H2 L (.lst [])) b = none := fun b hb => (f3 b hb).1.1
  show codeAny _ _ (.compStart (.ListComp elt [⟨tg, iter, ifs, 0⟩] scope pos) 0 (.ref it) (.ref L) (compEnvC scope (cellsFrom (s3.heap.objs.size + 1) scope.names (cloFrom X.env.cells scope.names [])) s3.heap.objs.size X.env)) _ { s3 with heap := pushCells (s3.heap.push { cls := .type "dict", data := .dict #[] }) scope.names }
  generalize hce : compEnvC scope (cellsFrom (s3.heap.objs.size + 1) scope.names (cloFrom X.env.cells scope.names [])) s3.heap.objs.size X.env = ce at I4 D4 pg pt pe ⊢
  have home : ce.locals = s3.heap.objs.size := by subst hce; rfl
  generalize eH3 : upd H2 L (.lst []) = H3 at I3 I4 D4 pg pt pe w0 away f3
  generalize es4 : ({ s3 with heap := pushCells (s3.heap.push { cls := .type "dict", data := .dict #[] }) scope.names } : Shared) = s4 at I4 ⊢
  have st4 : tn 0 s4.heap := T.keep _ _ _ st3 fun b _ o e => by rw [← es4]; exact pushCells_keeps _ _ _ _ (Heap.get?_push_of_some _ e)
  have calmFp : ∀ {σ' : HSt} {H' : Hp} {s' : Shared}, Inv (X.blk s3 H3 scope ce fp) [] σ' H' s' → (∀ b ∈ fp, H' b = none) → ∀ b ∈ fp, FpOk (X.blk s3 H3 scope ce fp) [] H' b := fun {σ' H' s'} J' hn b hb =>
    ⟨hn b hb, (J'.ok.exf b hb).1, J'.ok.exfs b hb, .inl hb, fun x c e => (J'.ok.exf b hb).2 x c e, fun p hp => absurd (show p ∈ ([] : List (Addr × Obj)) ++ [] from hp) (by simp)⟩
  refine codeAny_compStart_list ?loop (T.self X.A 0 _ _ _ st4 ?loop)
  case loop =>
    refine compLoop_any (fun n s' => ∃ i H', Inv (X.blk s3 H3 scope ce fp) [] (wipe σ (own.map (·.2))) H' s' ∧ tn i s'.heap ∧ (∀ b ∈ fp, H' b = none) ∧ W i n H') ?_ m0 ⟨0, H3, I4, st4, away, w0⟩
    rintro n s5 ⟨i, H5, I5, st5, n5, w5⟩
    rcases turn i n H5 w5 with ⟨stop, qq⟩ | ⟨go, Nx, hNx, step⟩
    · refine thnF (T.done (X.blk s3 H3 scope ce fp) rfl rfl rfl i [] s5 _ H5 (fun _ _ => False) (D4.at I5) I5 (calmFp I5 n5) st5 stop) fun r s6 ⟨hr, I6⟩ => ?_
      subst hr
      have back : Inv X pins σ H5 s6 := I3.call' (ch := fp) I6.os I6.base I6.hok I6.bare fun b hb => ⟨(f3 b hb).1.2.2.2.1, (f3 b hb).1.2.1, (f3 b hb).1.2.2.2.2.1, (f3 b hb).1.2.2.2.2.2⟩
      have gone : H5 s3.heap.objs.size = none := by rw [← home]; exact I6.free
      obtain ⟨m, hn, _⟩ := I6.loc
      have hn : s6.heap.Ns ce.locals m := hn
      rw [home] at hn
      refine ⟨m, hn, fun h'' sb => ?_⟩
      obtain ⟨f0, f1, f2, f3, f4, f5⟩ := I3.fpOk (Nat.le_refl _) gone
      exact ⟨.ref L, H5, back.turned (t' := s6.toks) (fun b o hb e => (sb.2 b hb).trans e) f0 f1 f3 f4 f5, rfl, qq⟩
    · refine thnF (T.item (X.blk s3 H3 scope ce fp) rfl rfl rfl i [] s5 _ H5 (fun _ _ => False) I5 (calmFp I5 n5) st5 go) fun r s6 ⟨u, hr, h6⟩ => ?_
      subst hr
      refine thnF h6 fun _ s7 ⟨x, H7, I7, r7, y7, st7, n7⟩ => ?_
      have pinned := I7.pinned (calmFp I7 n7) fun b hb => (T.obj _ _ st7 b hb).elim fun o e => ⟨o, e.1, e.2.1⟩
      refine thnF (pg.run _ s7 _ H7 x u _ pinned r7 (step x H7 y7)) fun _ s8 ⟨σ8, H8, I8, hw8, q8⟩ => ?_
      refine thnF (pt.run _ s8 σ8 H8 _ I8 q8) fun b s9 ⟨H9, I9, q9⟩ => ?_
      have on : ∀ {s' : Shared} {H' : Hp}, Inv (X.blk s3 H3 scope ce fp) ([] ++ pinsAt fp s7.heap) σ8 H' s' → Nx H' → ∃ m, m < n ∧ ∃ i H', Inv (X.blk s3 H3 scope ce fp) [] (wipe σ (own.map (·.2))) H' s' ∧ tn i s'.heap ∧ (∀ b ∈ fp, H' b = none) ∧ W i m H' := fun {s' H'} J' nx => by
        obtain ⟨m', lt, w'⟩ := hNx H' nx
        have still : ∀ b ∈ fp, ∀ o, s7.heap.get? b = some o → s'.heap.get? b = some o ∧ H' b = none := fun b hb o e =>
          let z := J'.pin (b, o) (List.mem_append_right _ (List.mem_append_right _ (mem_pinsAt hb e)))
          ⟨z.1, z.2.1⟩
        refine ⟨m', lt, i + 1, H', (J'.unpinned (pins := [])).weak (by rw [← hw8, wipe_length]) (fun j v e => ?_), T.keep _ _ _ st7 fun b hb o e => (still b hb o e).1, fun b hb => ?_, w'⟩
        · rw [← hw8] at e
          exact (wipe_some e).1
        · exact (T.obj _ _ st7 b hb).elim fun o e => (still b hb o e.1).2
      cases b with
      | false =>
        simp only [Bool.false_eq_true, if_false] at q9 ⊢
        exact on I9 q9
      | true =>
        simp only [if_true] at q9 ⊢
        refine thnF (pe.run _ s9 σ8 H9 _ I9 q9) fun z s10 ⟨yv, H10, I10, r10, acc, hL10, hz10, nx⟩ => ?_
        exact app_ok (X := X.blk s3 H3 scope ce fp) I10 hL10 hz10 r10 fun s11 I11 => on I11 nx
end
end DV
set_option Elab.async false
set_option linter.all false
set_option maxRecDepth 100000
set_option maxHeartbeats 4000000
namespace DV
open PySem PySem.Spec PyProof.Rows L2 HotX L2H
/-- max of a list of ints, called in a handler -/
theorem max_rawH {P : Program} {w : World} {A : Around} {E Q : Value → Shared → Prop} {st : Shared} {at_ hx : Addr} {vals : List Value} {zs : List Int} (hh : HotAt A hx st.heap) (isl : st.heap.IsList at_ vals.toArray)
    (whole : IntsAre vals zs) (some_ : 0 < zs.length)
    (fin : ∀ heap' tk g t, (∀ b o, st.heap.get? b = some o → heap'.get? b = some o) → g ∈ zs → (∀ z, z ∈ zs → z ≤ g) → Q (.int g t) { st with heap := heap', toks := tk }) :
    wpAny (model P w) A (call (.builtin "max") [.ref at_]) Q E st := by
  rcases whole.allInts.items with ⟨boxed, eb⟩
  have told : numsOf (intItems boxed).toList = zs := by simpa [← eb] using whole.numsOf
  rw [nums_intItems] at told
  rw [eb] at isl
  cases told
  refine max_hot hh isl (by simpa using some_) fun v heap' tk pick keep => ?_
  rcases intItems_at pick with ⟨t, rfl⟩
  have best := argBest_gt (numAt boxed) (boxed.size - 1)
  refine fin heap' tk _ t keep ?_ fun z hz => ?_
  · have inside := best.1
    rw [numAt_eq]
    refine PySem.getD_mem ?_
    simp only [List.length_map, Array.length_toList, List.length_range] at some_ ⊢
    omega
  · rcases mem_getD hz with ⟨q, hq, rfl⟩
    simp only [List.length_map, Array.length_toList] at hq
    have := best.2 q (by omega)
    rwa [numAt_eq] at this
section
variable {X : Cx} {W : WX} {e iter tg elt a : Expr} {es : List Expr} {f : DE} {la : DL} {pos p : Pos} {sts : List Stmt} {g : DS} {x : Str} {k : Nat} {ps : List Str}
theorem cr_maxH (D : HotD X) : CallR X (.builtin "max") (rMax X.K) := by
  rintro pins s σ H vs us Q I r ⟨lst, zs, rfl, sq, nonempty, q⟩
  rcases I.list sq with ⟨vals, rel, stands, _⟩
  rcases D.at I with ⟨_, hot⟩
  rw [Vals.ref1 r]
  exact max_rawH hot stands.isList rel.ints nonempty fun heap' tk g t keep into all => ⟨.int _, H, I.kept keep, ⟨_, rfl⟩, q g into all⟩
theorem bMaxH (D : HotD X) : BltR X (.builtin "max") maxLD := ⟨_, cr_maxH D, d_maxL⟩
/-! ### what is walked -/
def QIH (X : Cx) (W : WX) (tg iter : Expr) (f : IT) : Prop := PIH X tg iter (tI X.K X.mg W f)
def QIA (X : Cx) (W : WX) (tg iter : Expr) (f : IT) : Prop := PIA X tg iter (tI X.K X.mg W f)
theorem PIA.imp {t t' : TI} (h : PIA X tg e t) (k : ∀ σ H Q, t' σ H Q → t σ H Q) : PIA X tg e t' := ⟨fun pins s σ H Q I q => h.run pins s σ H Q I (k _ _ _ q)⟩
theorem PIH.imp {t t' : TI} (h : PIH X tg e t) (k : ∀ σ H Q, t' σ H Q → t σ H Q) : PIH X tg e t' := ⟨fun pins s σ H Q I q => h.run pins s σ H Q I (k _ _ _ q)⟩
theorem PIA.or {t t' : TI} (h : PIA X tg e t) (h' : PIA X tg e t') : PIA X tg e (fun σ H Q => t σ H Q ∨ t' σ H Q) := ⟨fun pins s σ H Q I q => q.elim (h.run pins s σ H Q I) (h'.run pins s σ H Q I)⟩
theorem i_seqA (h : QE X W e f) : QIA X W tg e (seqI f) := by
  refine PIA.imp (PIA.or (pia_list h) (pia_tup h)) fun σ H Q q => ?_
  obtain ⟨ι, F, S, sl, hz, hs, rel, q⟩ := q
  unfold seqI at q
  cases ef : f sl S with
  | er x S1 =>
    rw [ef] at q
    exact .inl ⟨ι, F, S, sl, hz, hs, rel, by rw [ef]; exact q⟩
  | bad => rw [ef] at q; exact q.elim
  | ok x S1 =>
    rw [ef] at q
    simp only [R.bind] at q
    split at q
    · rename_i ds S2 e2
      refine .inl ⟨ι, F, S, sl, hz, hs, rel, ?_⟩
      rw [ef]
      intro ι1 F1 H1 s1 r1 u ru
      obtain ⟨F2, g2, d2⟩ := frz_ok e2 r1 ru
      cases d2 with
      | lst q2 dd => exact ⟨_, rfl, ⟨_, SqL.of (g2.2.2.sub _ _ q2)⟩, q ι1 F2 H1 (s1.trans g2.2.1) g2.2.2 _ (it_list q2 dd)⟩
    · rename_i ds S2 e2
      refine .inr ⟨ι, F, S, sl, hz, hs, rel, ?_⟩
      rw [ef]
      intro ι1 F1 H1 s1 r1 u ru
      obtain ⟨F2, g2, d2⟩ := frz_ok e2 r1 ru
      cases d2 with
      | tup q2 dd _ => exact ⟨_, rfl, ⟨_, SqT.mono g2.2.2.sub q2⟩, q ι1 F2 H1 (s1.trans g2.2.1) g2.2.2 _ (it_tup q2 dd)⟩
    · exact q.elim
theorem i_seqH (h : QE X W e f) : QIH X W tg e (seqI f) := (i_seqA h).toH
theorem i_rng1H (hg : Gl X "range") (hm : X.mg "range" = none) (ha : QA X W [a] la) (hs : starEach [a] X.env = [(false, eval a X.env)] := by rfl) : QIH X W tg (.Call (.Name "range" p) [a] [] pos) (rng1 la) := by
  refine PIH.imp (pi_range1H hg hm ha hs) fun σ H Q q => ?_
  obtain ⟨ι, F, S, sl, hz, hs, rel, q⟩ := q
  refine ⟨ι, F, S, sl, hz, hs, rel, Aft.imp (Aft.bind q) fun xs S1 ι1 F1 H1 ⟨s1, r1, h1⟩ us rus => ?_⟩
  split at h1
  · cases rus with
    | cons r rr =>
      cases RVs.nil_inv rr
      cases r
      split at h1
      · rename_i c
        simp only [Bool.and_eq_true, decide_eq_true_eq] at c
        exact ⟨_, rfl, c.1, c.2, h1 ι1 F1 H1 .refl r1 _ it_range⟩
      · exact h1.elim
  · exact h1.elim
theorem s_forH {it : IT} {t : Tg} (hp : PassesOwn (model X.prog X.w) X.A X.env X.xe) (hc : HotC X) (hi : QIH X W tg iter it) (hg : PG X tg (t.g X.K)) (hb : QB X W sts g) (hs : ∀ x, foldedSetIterable iter X.env x = pure x := by intro _; rfl) : QS X W (.For tg iter sts [] pos) (forS it t g) :=
  PS.imp (ps_forH hp hc hi hg hb (hs := hs)) fun D σ H q => for_ok q
abbrev InBlkD (X : Cx) (scope : Scope) (k : Cx → Prop) : Prop := ∀ (s : Shared) (H : Hp) (C : Addr) (cl : List (Str × Addr)) (fp : List Addr), HotD (X.blk s H scope (compEnvC scope cl C X.env) fp) → k (X.blk s H scope (compEnvC scope cl C X.env) fp)
theorem f_lcA {ifs : List Expr} {scope : Scope} {own : List (Str × Nat)} {it : IT} {t : Tg} {tt : DB} {el : DE} (D : HotD X) (hN : X.N.Nodup) (hi : QIA X W tg iter it) (ok : BlkOk X.N X.env.scope scope own)
    (hx : ∀ i ∈ t.ix, i ∈ own.map (·.2))
    (hg : InBlkD X scope fun Y => PG Y tg (t.g X.K)) (ht : InBlkD X scope fun Y => QTs Y W0 ifs tt) (he : InBlkD X scope fun Y => QE Y W0 elt el) (hs : ∀ x, foldedSetIterable iter X.env x = pure x := by intro _; rfl) :
    QF X W (.ListComp elt [⟨tg, iter, ifs, 0⟩] scope pos) (lcF (own.map (·.2)) it t tt el) :=
  PE.imp (pe_lcA (tt := tB X.K X.mg W0 tt) (te := tE X.K X.mg W0 el) D hN hi ok hg ht he hs) fun σ H Q q => lc_ok hx q
/-! ### targets -/
theorem pg_tupH {k : Nat} {t : TGs} {n : Nat} (D : HotD X) (h : PGs X es t)
    (many : (assignEach es X.env).length = n := by rfl) (plain : (assignEach es X.env).findIdx? (·.1) = none := by rfl) : PG X (.Tuple es k pos) (gTup X.K n t) := by
  constructor
  rintro pins s σ H _ u Q I r ⟨tup, parts, rfl, sq, len, rest⟩
  rcases I.tuple sq with ⟨vals, rel, stands, _⟩
  rcases D.at I with ⟨_, hot⟩
  cases r
  have fits : (assignEach es X.env).length = vals.toArray.size := by rw [many, ← len, rel.length, List.size_toArray]
  refine assignTuple_hot hot (show s.heap.IsTuple tup vals.toArray from stands) (by simpa using fits) plain fun heap' keep => ?_
  exact h.run pins _ σ H parts _ Q (I.kept (t' := s.toks) fun b o q => keep b o (Nat.ne_of_lt (Heap.lt_size q)) q) (by simpa using rel) rest
/-- two values, each under its relation -/
theorem vals_two {v w : V} {us : List Value} (r : Vals [v, w] us) : ∃ a b, us = [a, b] ∧ RelV v a ∧ RelV w b := by
  cases r with
  | cons ra rest =>
    cases rest with
    | cons rb nothing =>
      cases nothing
      exact ⟨_, _, rfl, ra, rb⟩
theorem ps_parH {i j : Nat} {x y : Str} {a b : Expr} {ta : TA} {px py pt : Pos} {kt k2 pt2} (hot : HotD X) (hN : X.N.Nodup) (hi : X.N[i]? = some x) (hj : X.N[j]? = some y) (apart : i ≠ j)
    (lx : X.env.scope.names.lookup x = some .local) (ly : X.env.scope.names.lookup y = some .local) (two : PA X [a, b] ta)
    (names : swappedStores [.Tuple [.Name x px, .Name y py] kt pt] (.Tuple [a, b] k2 pt2) X.env = pure (some [x, y]))
    (sole : swapsWithSole [.Tuple [.Name x px, .Name y py] kt pt] (.Tuple [a, b] k2 pt2) pos.line X.env = pure false := by rfl) :
    PS X (.Assign [.Tuple [.Name x px, .Name y py] kt pt] (.Tuple [a, b] k2 pt2) pos) (tPar i j ta) := by
  constructor
  intro pins s σ H D I h
  rw [exec_Assign_arm]
  refine wpAny_bind (wpAny_standAt ?_)
  rw [sole]
  refine wpAny_bind (wpAny_pure ?_)
  rw [if_neg (fun z => Bool.noConfusion z)]
  refine wpAny_bind (Tuple_ (thn (two.run _ pins s σ H _ I h) fun us s1 got => ?_))
  rcases got with ⟨_, H1, J, rel, v, w, rfl, q⟩
  rcases vals_two rel with ⟨p, r, rfl, rp, rr⟩
  refine wpAny_newObj_type ?_ (show 2 ≤ sizeLine from by rw [sizeLine_eq]; omega)
  have laid : Inv X pins σ H1 { s1 with heap := s1.heap.push { cls := .type "tuple", data := .seq [p, r].toArray } } := J.kept (t' := s1.toks) fun b o q => Heap.get?_push_of_some _ q
  rw [names]
  refine wpAny_bind (wpAny_pure ?_)
  rcases hot.at laid with ⟨_, hh⟩
  show wpAny (model X.prog X.w) X.A (rule "assign.swapped-stores" >>= fun _ => unpackItems (.ref s1.heap.objs.size) 2 none >>= fun items => assignInOrder [fun v => bindName X.env y v, fun v => bindName X.env x v] items.reverse >>= fun _ => pure Flow.next) _ _ _
  refine wpAny_bind (wpAny_rule (wpAny_bind (unpackItems_hot (items := #[p, r]) hh (IsTup.new s1.heap _) fun heap' keep => ?_)))
  have J2 := laid.kept (h' := heap') (t' := s1.toks) fun b o q => keep b o (Nat.ne_of_lt (Heap.lt_size q)) q
  show wpAny _ _ (assignInOrder [fun z => bindName X.env y z, fun z => bindName X.env x z] [r, p] >>= fun _ => pure Flow.next) _ _ _
  refine wpAny_bind (assignInOrder_cons (wpAny_bindName (store_ok J2 hN hj (.inl ly) rr (fun s2 J3 => ?_) (.inr ly))))
  refine assignInOrder_cons (wpAny_bindName (store_ok J3 hN hi (.inl lx) rp (fun s3 J4 => assignInOrder_nil (wpAny_pure ⟨_, H1, ?_, q⟩)) (.inr lx)))
  rwa [List.set_comm _ _ (Ne.symm apart)] at J4
/-! ### defs called there -/
/-- the promise of a def there: nothing flies -/
def spH (K : PySem.W.Frag) (mg : Str → Option Value) (n : Nat) (Fn : FnP) : Sp := fun vs H Q _ => spP K mg n Fn vs H Q fun _ _ _ => False
end
inductive CalH (P : Program) (w : World) (K : PySem.W.Frag) (mg : Str → Option Value) (base : Heap) (x : Str) (k : Nat) (ps : List Str) (Fn : FnP) : Prop
  | mk {f : Addr} {fd : FuncData} (ok : FnH P w K mg base (L2N.CX P w) k f fd ps (spH K mg ps.length Fn)) (hm : mg x = some (.ref f)) (kp : PySem.W.keepIn K (.ref f) = true) (bd : Binds K fd ps []) (ln : ∀ args x, (Fn args = .ok x ∨ ∃ e, Fn args = .er e) → args.length = ps.length)
section
variable {X : Cx} {e : Expr} {es : List Expr} {la : DL} {pos p : Pos} {x : Str} {k : Nat} {ps : List Str}
theorem roomH_mark {k : Nat} {A : Around} {h : Option Value} (r : Room k A) : RoomH k (A.mark h) := ⟨r.dp, r.un⟩
theorem q_ph {Fn : FnP} {j : Nat} (G : CalH X.prog X.w X.K X.mg X.base x k ps Fn) (hr : RoomH j X.A) (hc : HotC X) (hj : k ≤ j) (ha : QA X W0 (e :: es) la) (hg : Gl X x := by rfl) (hdb : (x == ("__debug__" : Str)) = false := by decide)
    (he : starEach (e :: es) X.env = (false, eval e X.env) :: starEach es X.env := by rfl) (hpl : (backTo pos (starEach es X.env)).any (·.1) = false := by rfl) : QE X W0 (.Call (.Name x p) (e :: es) [] pos) (callP Fn la) := by
  obtain ⟨ok, hm, kp, bd, ln⟩ := G
  exact PE.imp (pe_callH ok (hr.mono hj) hc hg hm kp bd (fun σ => L2N.passAt takesN σ) ha hdb he hpl) fun σ H Q q => by
    have z := callP_ok ln q
    simp only [List.append_nil] at z
    exact z
end
section
variable {P : Program} {w : World} {K : PySem.W.Frag} {mg : Str → Option Value} {base : Heap}
theorem hotC_cxH {CX : CXT} {N : List Str} {qual : Str} {scope : Scope} {f : Addr} {cd : Value} {A : Around} {outer : List Env} {s : Shared} {H : Hp} {E : XK} {p : Addr × Obj} (h : Hot1 A p) : HotC (cxH CX P w K mg base N qual scope f cd A outer s H E p) := ⟨p, ⟨h.1, h.2⟩, List.mem_singleton.mpr rfl⟩
theorem fn_okH {x qual : Str} {st : Stmt} {f : Addr} {fd : FuncData} {N ps : List Str} {k : Nat} {g : DS} (F : FunD K x qual (defArgs st) (defBody st) (defScope st) [] [] f fd) (S : FnScope N ps (defScope st))
    (hb : ∀ (cdv : Value) (A : Around) (outer : List Env) (s : Shared) (H : Hp) (E : XK) (p : Addr × Obj), RoomH k (A.deeper (envOfC qual (defScope st) s.heap.objs.size f cdv)) → HotC (cxH (L2N.CX P w) P w K mg base N qual (defScope st) f cdv A outer s H E p) →
      QB (cxH (L2N.CX P w) P w K mg base N qual (defScope st) f cdv A outer s H E p) W0 (defBody st) g) :
    FnH P w K mg base (L2N.CX P w) (k + 1) f fd ps (spH K mg ps.length (runP N.length ps.length g)) := by
  rcases F.ex with ⟨_, _, _, _, _, _, _, cdv, _, _, rfl, lk, hcd, _, _⟩
  refine fn_ofH lk hcd S (fun vs H Q E h => ?_) (fun A outer s H vs Q E p hot hr h => ⟨_, hb cdv A outer s H E p hr (hotC_cxH hot), ?_⟩)
  · obtain ⟨_, _, h, _⟩ := h; exact h
  · obtain ⟨F, args, hl, sub, da, h⟩ := h
    have rv : RVs K (fun _ => 0) F 0 vs (args.map .d) := RVs.of_all da
    refine ⟨fun _ => 0, F, [], _, slots_len (by rw [rv.length]), slots_ok rv, ⟨sub, fun i j hi => absurd hi (Nat.not_lt_zero i), fun k o e => by simp at e⟩, ?_⟩
    unfold runP at h
    rw [if_pos (by rw [← da.length]; exact hl)] at h
    unfold endP at h
    cases eg : g (slots N.length (args.map .d)) [] with
    | nx sl' S' =>
      rw [eg] at h
      exact fun ι' F' H' σ' st r _ _ => h _ H' F' (st.grow0 r.sub) .non
    | rt d S' =>
      rw [eg] at h
      exact fun ι' F' H' v st r dv => h v H' F' (st.grow0 r.sub) dv
    | er e sl' S' =>
      rw [eg] at h
      exact fun ι' F' H' σ' cls d st r _ _ er => h H' F' cls d (st.grow0 r.sub) er
    | bk sl' S' => rw [eg] at h; exact h.elim
    | ct sl' S' => rw [eg] at h; exact h.elim
    | bad => rw [eg] at h; exact h.elim
end
end DV
set_option Elab.async false
set_option linter.all false
set_option maxRecDepth 100000
set_option maxHeartbeats 4000000
namespace LamY
open PySem PySem.Spec PyProof.Rows PySem.W L2 LamX DV
/-- a lambda's parameters: none, or one with a whole number as its default -/
inductive LamP (params : Arguments) (body : Expr) (scope : Scope) (env : Env) : Option (Str × Int) → Prop
  | no : defaultsOf params env = ([], []) → (∀ (q : Str) (cl : List (Str × Addr)) (pm cv ctv doc : Value), bindArgs (fnD q params body scope cl pm cv ctv .none doc) ⟨[], []⟩ = pure []) → LamP params body scope env none
  | one (a : Str) (i : Int) (kk : Nat) (dp : Pos) : defaultsOf params env = ([eval (.Constant (.int i) kk dp) env], []) →
      (∀ (q : Str) (cl : List (Str × Addr)) (pm cv ctv doc v : Value) (T : Addr), ∃ k, bindArgs (fnD q params body scope cl pm cv ctv (.ref T) doc) ⟨[], []⟩ = seqItems? (.ref T) >>= k ∧ k (some #[v]) = pure [(a, v)]) → LamP params body scope env (some (a, i))
/-- all but the table at P stays -/
def ExtP (P : Addr) (H H' : Hp) : Prop := ∀ b o, H b = some o → b ≠ P → H' b = some o
/-! ### a table with one code object more -/
section
variable {H : Hp} {P c' : Addr} {q : Str} {ps : Array Value} {pos : Pos}
abbrev heapMore (H : Hp) (P c' : Addr) (q : Str) (ps : Array Value) (pos : Pos) : Hp := upd (upd H P (.tbl (ps ++ #[rawInt pos.line, rawInt pos.col, .ref c']))) c' (CodeO c' q)
theorem more_ext (fresh : H c' = none) : ExtP P H (heapMore H P c' q ps pos) := fun b o hb ne => (upd_ne (ne_of_none hb fresh)).trans ((upd_ne ne).trans hb)
theorem more_tab (hP : H P = some (.tbl ps)) (ok : TriplesOk ps.toList) (all : ∀ (p : Pos) (cv : Value), codeAmong p ps.toList = some cv → ∃ c, cv = .ref c ∧ H c = some (CodeO c q)) (fresh : H c' = none) : TabS (heapMore H P c' q ps pos) P q := by
  refine ⟨_, (upd_ne (ne_of_none hP fresh)).trans upd_same, ?_, ?_⟩
  · have e : (ps ++ #[rawInt pos.line, rawInt pos.col, Value.ref c']).toList = ps.toList ++ [rawInt pos.line, rawInt pos.col, Value.ref c'] := Array.toList_append ..
    exact e ▸ PySem.TriplesOk_snoc _ _ _ _ ok
  · intro p cv found
    have found' : codeAmong p (ps.toList ++ [rawInt pos.line, rawInt pos.col, .ref c']) = some cv := by simpa using found
    cases among_app _ ok found' with
    | inr new => exact ⟨c', new, upd_same⟩
    | inl old =>
      obtain ⟨c0, e, tracked⟩ := all p cv old
      exact ⟨c0, e, more_ext fresh c0 _ tracked fun z => codeO_ne ps (Option.some.inj (tracked.symm.trans (z ▸ hP)))⟩
end
section
variable {X : Cx} {pins : List (Addr × Obj)} {σ : L2.St} {H : Hp} {s : Shared}
/-- makeTail of a lambda: its code object is found in the table, or one is put there; either way the lambda is tracked from then on -/
theorem lam_tailH {c P T : Addr} {L : LamSpec} {pos : Pos} {E : Value → Shared → Prop} {Q : Value → Shared → Prop} (I : Inv X pins σ H s) (TB : TabB X.base X.mg c P) (hcode : X.env.code = .ref c)
    (hT : TabS H P L.q) (hfree : ∀ y ∈ L.scope.names, y.2 = .free → ∃ c, X.env.cells.lookup y.1 = some c)
    (h : ∀ (f c' : Addr) (H1 : Hp) (s' : Shared), Inv X pins σ H1 s' → ExtP P H H1 → TabS H1 P L.q → H f = none → H1 f = some (LamO f L (cloFrom X.env.cells L.scope.names []) c' T) → H1 c' = some (CodeO c' L.q) → Q (.ref f) s') :
    wpAny (model X.prog X.w) X.A (makeTail "<lambda>" L.q L.params (.expr L.body) L.scope X.env (dfV L T) .none none pos pos.line) Q E s := by
  obtain ⟨ps, hP, ok, all⟩ := hT
  have tabH := I.hok P _ hP
  have clos := closure_ok hfree
  -- the heap grew to h1, tracked as H1; the code object stands at c'
  have fin : ∀ (H1 : Hp) (h1 : Heap) (tk : Tok) (c' : Addr) (ctv doc : Value), Inv X pins σ H1 { s with heap := h1, toks := tk } → ExtP P H H1 → TabS H1 P L.q → H1 c' = some (CodeO c' L.q) → s.heap.objs.size ≤ h1.objs.size →
      Q (.ref h1.objs.size) { s with heap := h1.push (objD L.q L.params L.body L.scope (cloFrom X.env.cells L.scope.names []) ((X.mg "__name__").getD .none) (.ref c') ctv (dfV L T) doc), toks := tk } := by
    intro H1 h1 tk c' ctv doc I1 ext tab code grown
    have unused := I1.hok.fresh (a := h1.objs.size) (Nat.le_refl _)
    have stay : ∀ b o, H1 b = some o → upd H1 h1.objs.size (LamO h1.objs.size L (cloFrom X.env.cells L.scope.names []) c' T) b = some o := fun b o e => (upd_ne (ne_of_none e unused)).trans e
    have at_ : (h1.push (objD L.q L.params L.body L.scope (cloFrom X.env.cells L.scope.names []) ((X.mg "__name__").getD .none) (.ref c') ctv (dfV L T) doc)).get? h1.objs.size = some _ := Heap.get?_push_size _ rfl
    refine h h1.objs.size c' _ _ (I1.laid (t' := tk) (o := LamO h1.objs.size L (cloFrom X.env.cells L.scope.names []) c' T) (fun _ _ => Heap.get?_push_of_some _) (Nat.le_refl _) ⟨⟨_, _, _, at_⟩, ⟨_, at_⟩, fun _ _ ⟨a, b, d, e⟩ k => ⟨a, b, d, k _ e⟩⟩)
      (fun b o e ne => stay b o (ext b o e ne)) (tab.ext stay) (I.hok.fresh grown) upd_same (stay _ _ code)
  cases look : codeAmong pos ps.toList with
  | some cv =>
    obtain ⟨c', rfl, code⟩ := all pos cv look
    exact kdv_makeTailHit clos I.ok.glob (I.mod.glob.keeps I.bk) hcode (TB.code.keeps I.bk) tabH ok look (TB.bm.keeps I.bk) fun ctv doc h1 tk keeps grown => fin H h1 tk c' ctv doc (I.kept keeps) (fun _ _ e _ => e) ⟨ps, hP, ok, all⟩ code grown
  | none =>
    refine kdv_makeTail clos I.ok.glob (I.mod.glob.keeps I.bk) hcode (TB.code.keeps I.bk) tabH ok look TB.gP (TB.bm.keeps I.bk) fun c' ctv doc h1 tk ext lo hi code tab => ?_
    obtain ⟨c2, oc, vs, t, ec, code⟩ := code
    cases ec
    have fresh := I.hok.fresh lo
    exact fin (heapMore H P c' L.q ps pos) h1 tk c' ctv doc (inv_table I hP (fun b o ne e => ext b o ne e) tab lo ⟨oc, vs, t, code⟩) (more_ext fresh) (more_tab hP ok all fresh) upd_same (Nat.le_trans lo (Nat.le_of_lt hi))
theorem lam_make4 {c P : Addr} {params : Arguments} {body : Expr} {scope : Scope} {pos : Pos} {df : Option (Str × Int)} {E : Value → Shared → Prop} {Q : Value → Shared → Prop} (I : Inv X pins σ H s) (TB : TabB X.base X.mg c P) (hcode : X.env.code = .ref c)
    (hT : TabS H P (X.env.qual ++ "<lambda>")) (lp : LamP params body scope X.env df) (hfree : ∀ y ∈ scope.names, y.2 = .free → ∃ c, X.env.cells.lookup y.1 = some c)
    (h : ∀ (f : Addr) (H1 : Hp) (s' : Shared), Inv X pins σ H1 s' → ExtP P H H1 → TabS H1 P (X.env.qual ++ "<lambda>") → H f = none → LamS H1 f ⟨X.env.qual ++ "<lambda>", params, body, scope, df⟩ (cloFrom X.env.cells scope.names []) → Q (.ref f) s') :
    wpAny (model X.prog X.w) X.A (eval (.Lambda params body scope pos) X.env) Q E s := by
  rw [arm_eval_Lambda]
  cases lp with
  | no hdef hb =>
    rw [hdef]
    show wpAny _ _ (do let dv ← evalAll []; let kdv ← holding dv (evalAllOpt []); makeFunction "<lambda>" (X.env.qual ++ "<lambda>") params (.expr body) scope X.env dv kdv [] pos pos.line) Q E s
    refine wpAny_bind (wpAny_pure (wpAny_bind (wpAny_holding (wpAny_pure ?_))))
    rw [makeFunction_eq]
    simp only [List.zip_nil_right, List.filterMap_nil, List.isEmpty_nil, if_true, pure_bind]
    exact lam_tailH (T := 0) (L := ⟨X.env.qual ++ "<lambda>", params, body, scope, none⟩) I TB hcode hT hfree fun f c' H1 s' I1 eN T1 f0 f1 hco => h f H1 s' I1 eN T1 f0 ⟨c', 0, f1, hco, fun p hp => nomatch hp⟩
  | one a i kk dp hdef hb =>
    rw [hdef]
    show wpAny _ _ (do let dv ← evalAll [eval (.Constant (.int i) kk dp) X.env]; let kdv ← holding dv (evalAllOpt []); makeFunction "<lambda>" (X.env.qual ++ "<lambda>") params (.expr body) scope X.env dv kdv [] pos pos.line) Q E s
    refine wpAny_bind (wpAny_evalAll_cons (wpAny_Constant_int ?_))
    refine wpAny_evalAll_nil ?_
    refine wpAny_bind (wpAny_holding (wpAny_pure ?_))
    rw [makeFunction_eq]
    simp only [List.zip_nil_right, List.filterMap_nil, List.isEmpty_nil, List.isEmpty_cons, Bool.false_eq_true, if_false, if_true, pure_bind]
    refine wpAny_bind (wpAny_newTextTuple ?_)
    have hp : H s.heap.objs.size = none := I.hok.fresh (Nat.le_refl _)
    have hne : s.heap.objs.size ≠ P := fun z => by
      obtain ⟨ps, e, _⟩ := hT
      rw [← z, hp] at e
      cases e
    have I1 : Inv X pins σ (upd H s.heap.objs.size (.tup [.int i])) { s with heap := s.heap.push { cls := .type "tuple", data := .seq [Value.int i s.toks].toArray }, toks := s.toks + 1 } :=
      I.laid (fun b o e => Heap.get?_push_of_some _ e) (Nat.le_refl _) ⟨by show 1 ≤ sizeLine; decide, [Value.int i s.toks], .cons ⟨s.toks, rfl⟩ .nil, _, Heap.get?_push_size _ rfl, rfl, _, rfl⟩
    have eK : ∀ b o, H b = some o → upd H s.heap.objs.size (.tup [.int i]) b = some o := fun b o e => by rw [upd_ne (ne_of_none e hp)]; exact e
    refine lam_tailH (T := s.heap.objs.size) (L := ⟨X.env.qual ++ "<lambda>", params, body, scope, some (a, i)⟩) I1 TB hcode (hT.ext eK) hfree fun f c' H1 s' I2 eN T1 f0 f1 hco => h f H1 s' I2 (fun b o e n => eN b o (eK b o e) n) T1 (NdefX.upd_none f0) ⟨c', _, f1, hco, fun p hp => ?_⟩
    cases hp
    exact eN _ _ upd_same hne
end
/-! ### called -/
/-- no name of its own but the parameter: captured ones and globals -/
structure LamD (N : List Str) (sc scope : Scope) (df : Option (Str × Int)) : Prop where
  kind : scope.kind = .function
  co : scope.isCoroutine = false
  gen : scope.isGenerator = false
  own : ∀ y ∈ scope.names, (y.2 = .local → y.1 ∉ N) ∧ y.2 ≠ .cell
  free : ∀ y ∈ scope.names, y.2 = .free → sc.names.lookup y.1 = some .cell ∨ sc.names.lookup y.1 = some .free
  dfl : ∀ a i, df = some (a, i) → scope.names.lookup a = some .local
def lamDB (N : List Str) (sc scope : Scope) (df : Option (Str × Int)) : Bool :=
  decide (scope.kind = .function) && !scope.isCoroutine && !scope.isGenerator && scope.names.all (fun y => (!decide (y.2 = .local) || !decide (y.1 ∈ N)) && !decide (y.2 = .cell) && (!decide (y.2 = .free) || decide (sc.names.lookup y.1 = some .cell) || decide (sc.names.lookup y.1 = some .free))) &&
    (match df with | some (a, _) => decide (scope.names.lookup a = some .local) | none => true)
theorem lamD_by {N : List Str} {sc scope : Scope} {df : Option (Str × Int)} (h : lamDB N sc scope df = true) : LamD N sc scope df := by
  unfold lamDB at h
  simp only [Bool.and_eq_true, Bool.or_eq_true, Bool.not_eq_true', decide_eq_true_eq, decide_eq_false_iff_not, List.all_eq_true] at h
  obtain ⟨⟨⟨⟨h1, h2⟩, h3⟩, h4⟩, h5⟩ := h
  refine ⟨h1, h2, h3, fun y hy => ⟨fun e => (h4 y hy).1.1.elim (fun z => absurd e z) id, (h4 y hy).1.2⟩, fun y hy e => ?_, fun a i e => ?_⟩
  · rcases (h4 y hy).2 with (z | z) | z
    · exact absurd e z
    · exact .inl z
    · exact .inr z
  · subst e
    exact of_decide_eq_true h5
theorem LamD.has {X : Cx} {N : List Str} {scope : Scope} {df : Option (Str × Int)} (L : LamD N X.env.scope scope df) (ok : X.Ok) : ∀ y ∈ scope.names, y.2 = .free → ∃ c, X.env.cells.lookup y.1 = some c := fun y hy e => by
  rcases L.free y hy e with k | k
  · exact ok.has _ (.inl k)
  · exact ok.has _ (.inr k)
section
variable {X : Cx} {pins : List (Addr × Obj)} {σ : L2.St} {H HZ : Hp} {s s1 : Shared} {scope : Scope} {df : Option (Str × Int)}
/-- what the lambda closes over are the frame's own cells, and all of its free names are there -/
theorem clo_up (hfree : ∀ y ∈ scope.names, y.2 = .free → ∃ c, X.env.cells.lookup y.1 = some c) {y : Str} {c : Addr} (e : (cloFrom X.env.cells scope.names []).lookup y = some c) : X.env.cells.lookup y = some c := by
  cases cloFrom_mem (PySem.mem_of_lookup e) with
  | inl none_yet => cases none_yet
  | inr q =>
    obtain ⟨c1, there⟩ := hfree _ q.1 rfl
    have there : X.env.cells.lookup y = some c1 := there
    have same : c = c1 := by
      rw [q.2, there] <;> rfl
    exact same ▸ there
theorem clo_there {y : Str} (hl : scope.names.lookup y = some .free) : ∃ c, (cloFrom X.env.cells scope.names []).lookup y = some c :=
  mem_lookup (cloFrom_has (cells := X.env.cells) (acc := []) (PySem.mem_of_lookup hl))
/-- the lambda's frame, entered -/
theorem lam_start4 {A : Around} {outer : List Env} {E : XK} {f c' : Addr} {h₁ : Heap} {tk : Nat} {bs : List (Str × Value)} (I : Inv X pins σ H s) (L : LamD X.N X.env.scope scope df) (e0 : Env0 X.prog X.w X.K X.mg X.base A outer s1 HZ) (hd : A.handled = none)
    (ck : ∀ (y : Str) (c : Addr) (v : Option Value), X.env.cells.lookup y = some c → s.heap.IsCell c v → s1.heap.IsCell c v) (cf : ∀ (y : Str) (c : Addr), X.env.cells.lookup y = some c → HZ c = none) (hns : h₁.Ns s1.heap.objs.size fun y => bs.reverse.lookup y) (kp : ∀ b o, s1.heap.get? b = some o → h₁.get? b = some o) :
    Inv (lamCx X A outer s1 HZ E scope f c') [] σ HZ { s1 with heap := h₁, toks := tk } := by
  have up := @clo_up X scope (L.has I.ok)
  have cell : ∀ {y : Str} {c : Addr} {v : Option Value}, X.env.cells.lookup y = some c → s.heap.IsCell c v → h₁.IsCell c v := fun n z => (ck _ _ _ n z).imp fun _ p => ⟨kp _ _ p.1, p.2⟩
  have noEx : ∀ b : Addr, b ∉ ([] : List Addr) := fun _ => List.not_mem_nil
  have noCell : ∀ {y : Str}, scope.names.lookup y ≠ some .cell := fun z => (L.own _ (PySem.mem_of_lookup z)).2 rfl
  exact {
    ok := {
      mod := e0.mod, kind := L.kind, glob := rfl, blt := rfl, above := Nat.le_refl _
      inj := fun y z c a b => I.ok.inj y z c (up a) (up b)
      has := fun y hy => hy.elim (fun z => absurd z noCell) clo_there
      cab := fun _ _ z => nomatch (show false = true from z)
      hd := fun _ => hd
      frames := Around.frames_deeper e0.frames
      stk := .inr ⟨rfl, rfl⟩
      exf := fun b z => absurd z (noEx b)
      bs := e0.bs, bsz := e0.bsz
      noex := fun b _ _ => noEx b
      exfs := fun b z => absurd z (noEx b)
      funs := e0.funs, frf := e0.frf }
    os := rfl
    bare := e0.bare
    base := Un.kept kp
    loc := by
      refine ⟨_, hns, fun i y v e1 e2 vis => ?_⟩
      rcases (show Vis scope y from vis) with k | k | k
      · exact absurd (List.mem_of_getElem? e1) ((L.own _ (PySem.mem_of_lookup k)).1 rfl)
      · exact absurd k noCell
      · have mine := L.free _ (PySem.mem_of_lookup k) rfl
        obtain ⟨m, _, look⟩ := I.loc
        obtain ⟨u, r, q⟩ := look i y v e1 e2 (.inr mine)
        obtain ⟨c2, there⟩ := clo_there (X := X) k
        refine ⟨u, r, .inr ⟨.inr k, c2, there, ?_⟩⟩
        rcases q with ⟨loc, _⟩ | ⟨_, c3, e3, z⟩
        · have loc : X.env.scope.names.lookup y = some .local := loc
          cases mine with
          | inl w => exact nomatch loc.symm.trans w
          | inr w => exact nomatch loc.symm.trans w
        · exact cell (up there) (Option.some.inj (e3.symm.trans (up there)) ▸ z)
    cell := fun y c e => (I.cell y c (up e)).imp fun _ z => cell (up e) z
    free := e0.hok.fresh (Nat.le_refl _)
    freeC := fun y c e => cf y c (up e)
    pin := fun q hq => nomatch (show q ∈ ([] : List (Addr × Obj)) ++ [] from hq)
    hok := e0.hok.kept kp
    len := I.len }
/-- what a lambda's own parameter gets: nothing, or the default -/
theorem lam_binds {body : Expr} {params : Arguments} {q : Str} {cl : List (Str × Addr)} {pm cdv ctv doc : Value} {T : Addr} {p0 : List (Addr × Obj)} {σ0 : L2.St} {Y : Cx} {env : Env} (L : LamD X.N X.env.scope scope df) (lp : LamP params body scope env df) (I : Inv Y p0 σ0 HZ s1) (hT : ∀ p, df = some p → HZ T = some (.tup [.int p.2])) :
    ∃ bs : List (Str × Value), (∀ (M : Model) (A : Around) (Q : List (Str × Value) → Shared → Prop) (E : Value → Shared → Prop), Q bs s1 → wpAny M A (bindArgs (fnD q params body scope cl pm cdv ctv (dfV ⟨q, params, body, scope, df⟩ T) doc) ⟨[], []⟩) Q E s1) ∧ ∀ x ∈ bs, scope.names.lookup x.1 = some .local := by
  cases lp with
  | no _ none_bound => exact ⟨[], fun M A Q E given => (none_bound q cl pm cdv ctv doc).symm ▸ wpAny_pure given, fun x hx => nomatch hx⟩
  | one a i kk dp _ bound =>
    obtain ⟨_, its, vals, o, there, _, n, data⟩ := I.hok T _ (hT _ rfl)
    obtain ⟨u, rfl, _⟩ := vals1 vals
    obtain ⟨k, e1, e2⟩ := bound q cl pm cdv ctv doc u T
    refine ⟨[(a, u)], fun M A Q E given => ?_, fun x hx => ?_⟩
    · show wpAny M A (bindArgs (fnD q params body scope cl pm cdv ctv (.ref T) doc) ⟨[], []⟩) Q E s1
      rw [e1]
      exact wpAny_bind (wpAny_seqItems there data (e2.symm ▸ wpAny_pure given))
    · cases List.mem_singleton.mp hx
      exact L.dfl a i rfl
/-- x(), in the def that got the lambda: Z is that def's context, entered at s from the frames st; the lambda's own frame is as it was at s₀ -/
theorem pe_act4 {CXg : CXT} {Eg : XK} {Ng : List Str} {qg : Str} {sg : Scope} {g f : Addr} {cdg : Value} {params : Arguments} {body : Expr} {k i : Nat} {a : Str} {pn : List (Addr × Obj)} {xe : Value → Shared → Prop} {W : WX} {E : XK} {tb : TE} {p1 p2 : Pos}
    {A₁ : Around} {st : List Env} {fr ex : List Addr} {s₀ : Shared} {H₀ : Hp}
    (I : Inv X pins σ H₀ s₀) (hex : ∀ (y : Str) (c : Addr), X.env.cells.lookup y = some c → c ∉ ex) (un₀ : Un fr ex H₀ H s₀.heap s.heap) (L : LamD X.N X.env.scope scope df) (lp : LamP params body scope X.env df)
    (tk : Takes ((cxOf CXg X.prog X.w X.K X.mg X.base Ng qg sg g cdg A₁ st s H Eg).tr pn xe) W) (hW : ∀ cls d σ' H', E cls d H' → W cls d σ' H') (hr : Room (k + 1) (A₁.deeper (envOfC qg sg s.heap.objs.size g cdg)))
    (hbody : ∀ (A : Around) (outer : List Env) (s : Shared) (H : Hp) (c' : Addr), Room k (A.deeper (lamEnv X scope s.heap.objs.size f c')) → PE (lamCx X A outer s H E scope f c') body tb)
    (hN : Ng[i]? = some a) (hv : Vis sg a) (n1 : (a == ("__debug__" : Str)) = false := by decide) (n2 : (a == ("__classdict__" : Str)) = false := by decide) :
    PE ((cxOf CXg X.prog X.w X.K X.mg X.base Ng qg sg g cdg A₁ st s H Eg).tr pn xe) (.Call (.Name a p1) [] [] p2)
      (fun σZ HZ Q => σZ[i]? = some (some (.ref f)) ∧ LamS HZ f ⟨X.env.qual ++ "<lambda>", params, body, scope, df⟩ (cloFrom X.env.cells scope.names []) ∧ tb σ HZ Q) := by
  constructor
  rintro pinsZ sZ σZ HZ Q IZ ⟨held, ⟨c', T, lam, code, dflt⟩, want⟩
  refine wpAny_Call_Name_kw (thn ((pe_var (pos := p1) (i := i) hN hv n1 n2).run pinsZ sZ σZ HZ (fun v H1 => v = .ref f ∧ H1 = HZ) IZ ⟨_, held, rfl, rfl⟩) ?_)
  rintro u s1 ⟨x, H1, I1, rel, ex, eH⟩
  subst ex
  rw [eH] at I1
  obtain rfl : u = Value.ref f := rel
  obtain ⟨⟨pm, ctv, doc, there⟩, _⟩ := I1.hok f _ lam
  obtain ⟨bs, binds, own⟩ := lam_binds (q := X.env.qual ++ "<lambda>") (cl := cloFrom X.env.cells scope.names []) (pm := pm) (cdv := .ref c') (ctv := ctv) (doc := doc) L lp I1 dflt
  obtain ⟨⟨oc, vs, t, cobj, cfields, cname⟩, _⟩ := I1.hok c' _ code
  have un : Un (frs st) [] H HZ s.heap s1.heap := I1.base
  have cells : ∀ (y : Str) (c : Addr) (v : Option Value), X.env.cells.lookup y = some c → s₀.heap.IsCell c v → s1.heap.IsCell c v := by
    rintro y c v e ⟨o, ho, data⟩
    obtain ⟨_, one⟩ := un₀.any ho (I.freeC y c e) (hex y c e)
    obtain ⟨_, two⟩ := un.any one (un₀.free c o ho (I.freeC y c e) (hex y c e)) List.not_mem_nil
    exact ⟨_, two, data⟩
  have untracked : ∀ (y : Str) (c : Addr), X.env.cells.lookup y = some c → HZ c = none := fun y c e => by
    obtain ⟨v, o, ho, _⟩ := I.cell y c e
    obtain ⟨_, one⟩ := un₀.any ho (I.freeC y c e) (hex y c e)
    exact un.free c _ one (un₀.free c o ho (I.freeC y c e) (hex y c e)) List.not_mem_nil
  have run : codeAny (model X.prog X.w) (A₁.deeper (envOfC qg sg s.heap.objs.size g cdg)) (.call (.ref f) ⟨[], []⟩) (CR (L2.CX X.prog X.w) (envOfC qg sg s.heap.objs.size g cdg :: st) X.prog X.w HZ s1 Q E) s1 := by
    refine PySem.W.kla_callFunE hr.depth there rfl L.co L.gen rfl ⟨c', oc, vs, t, rfl, cobj, cfields, cname⟩ (binds _ _ _ _ (wpAny_newFunctionEnv (fun y hy => (L.own y hy).2) own (fun h₁ hns sb => ⟨I1.nolimit.fresh _ sb, ?_⟩) L.kind))
    have older : ∀ b o, s1.heap.get? b = some o → h₁.get? b = some o := fun b o e => sb.extBut b o (Nat.ne_of_lt (Heap.lt_size e)) (Heap.get?_push_of_some _ e)
    have J := lam_start4 (A := A₁.deeper (envOfC qg sg s.heap.objs.size g cdg)) (outer := envOfC qg sg s.heap.objs.size g cdg :: st) (E := E) (f := f) (c' := c') (tk := s1.toks + bs.length) I L I1.env0 hr.hd cells untracked hns older
    refine PySem.W.kla_codeExpr (wpAny_mono ((hbody _ _ s1 HZ c' (hr.deeper _)).run [] _ _ HZ Q J want) ?_ fun _ _ e => e)
    rintro v s' ⟨y, H', J', rel', got⟩
    exact ⟨y, H', J'.os, J'.bare, J'.base, J'.hok, rel', got⟩
  refine PySem.W.callWith_F0 ⟨_, _, _, _, there⟩ (wpAny_call (codeAny_mono run fun r s' out => ?_))
  match r, out with
  | .error e, out => exact passes_call tk hW pinsZ σZ _ s1 e s' I1 out
  | .ok (.ret u), out => exact I1.after out
  | .ok .next, out => exact out.elim
  | .ok .brk, out => exact out.elim
  | .ok .cont, out => exact out.elim
end
end LamY
set_option Elab.async false
set_option linter.all false
set_option maxRecDepth 100000
set_option maxHeartbeats 4000000
namespace LamY
open PySem PySem.Spec PyProof.Rows PySem.W L2 LamX DV
/-- as GivesTo, from any frames; PZ: what is known of the lambda -/
def GivesY (prog : Program) (w : World) (K : PySem.W.Frag) (mg : Str → Option Value) (base : Heap) (A₁ : Around) (st : List Env) (Ng : List Str) (x : Str) (sg : Scope) (g : Addr) (cdg : Value) (bg : List Stmt) (a : Str) (TT : (XK → Hp → VK → Prop) → Hp → VK → Prop) : Prop :=
  ∀ (f : Addr) (PZ : Hp → Prop) (s : Shared) (H : Hp) (Q : VK) (tl : XK → Hp → VK → Prop),
    (∀ (W : WX) (pn : List (Addr × Obj)) (xe : Value → Shared → Prop) (E : XK) (p1 p2 : Pos), Takes ((cxOf C8.CX0 prog w K mg base Ng x sg g cdg A₁ st s H C8.E0).tr pn xe) W → (∀ cls d σ' H', E cls d H' → W cls d σ' H') →
      PE ((cxOf C8.CX0 prog w K mg base Ng x sg g cdg A₁ st s H C8.E0).tr pn xe) (.Call (.Name a p1) [] [] p2) (fun σZ HZ Q => σZ[0]? = some (some (.ref f)) ∧ PZ HZ ∧ tl E HZ Q)) →
    PZ H → TT tl H Q →
    ∃ t, PSs (cxOf C8.CX0 prog w K mg base Ng x sg g cdg A₁ st s H C8.E0).nox bg t ∧ t { nx := fun _ H' => Q .non H', rt := Q } (L2.start Ng [.ref f]) H
/-- what the clauses say of an exception -/
def clW (K : PySem.W.Frag) (Q : VK) : List (Value × Str) → XK
  | [] => fun _ _ _ => False
  | (c, ret) :: r => fun cls d H => ∃ b, PySem.W.exmOne K cls c = some b ∧ (b = true → Q (.str ret) H) ∧ (b = false → clW K Q r cls d H)
/-- told: try: a() / except x: return "..." .. / return last -/
def TTerr (K : PySem.W.Frag) (l : List (Value × Str)) (last : Str) : (XK → Hp → VK → Prop) → Hp → VK → Prop := fun tl H Q => tl (clW K Q l) H fun _ H' => Q (.str last) H'
/-- handlers that return a word each, named or not -/
inductive HdsR (X : Cx) : List ExceptHandler → List (Value × Str) → Prop
  | nil : HdsR X [] []
  | cons {x ret : Str} {c : Value} {j : Nat} {np p5 p6 p7 : Pos} {hds : List ExceptHandler} {l : List (Value × Str)} (hc : Names X x c) (r : HdsR X hds l) :
      HdsR X (.ExceptHandler (some (.Name x np)) none [.Return (some (.Constant (.str ret) j p5)) p6] p7 :: hds) ((c, ret) :: l)
def hdT (l : List (Value × Str)) : List (Value × (Addr → Value → Option Addr → TS)) := l.map fun p => (p.1, fun _ _ _ D _ H => D.rt (.str p.2) H)
theorem hdsOk_of {X : Cx} {hds : List ExceptHandler} {l : List (Value × Str)} (h : HdsR X hds l) : HdsOk X hds (hdT l) := by
  induction h with
  | nil => exact .nil
  | cons hc r ih => exact .cons hc (fun a oe cls d pn _ _ => pss_one (ps_ret pe_str)) ih
theorem wMany_of {K : PySem.W.Frag} {Wout : WX} {D : Ends} {cls : Value} {d : Option Addr} {σ : L2.St} {H : Hp} : ∀ {l : List (Value × Str)}, clW K D.rt l cls d H → wMany K Wout D (hdT l) cls d σ H
  | [], h => h.elim
  | (c, ret) :: r, h => by
    obtain ⟨b, h1, h2, h3⟩ := h
    exact ⟨b, h1, fun hb a _ => h2 hb, fun hb => wMany_of (l := r) (h3 hb)⟩
section
variable {prog : Program} {w : World} {K : PySem.W.Frag} {mg : Str → Option Value} {base : Heap} {A₁ : Around} {st : List Env}
theorem err_gives {Ng : List Str} {x a last : Str} {sg : Scope} {g : Addr} {cdg : Value} {j : Nat} {p1 p2 p3 p4 p5 p8 : Pos} {h₀ : ExceptHandler} {hds : List ExceptHandler} {l : List (Value × Str)}
    (hh : ∀ (s : Shared) (H : Hp), HdsR (cxOf C8.CX0 prog w K mg base Ng x sg g cdg A₁ st s H C8.E0).nox (h₀ :: hds) l) (h0 : ∀ f : Addr, (L2.start Ng [V.ref f])[0]? = some (some (V.ref f)))
    (hsw : ∀ (s : Shared) (H : Hp), swapsWith (.Call (.Name a p1) [] [] p2) none p3.line (cxOf C8.CX0 prog w K mg base Ng x sg g cdg A₁ st s H C8.E0).env = pure false) :
    GivesY prog w K mg base A₁ st Ng x sg g cdg [.Try [.Expr (.Call (.Name a p1) [] [] p2) p3] (h₀ :: hds) [] [] p8, .Return (some (.Constant (.str last) j p4)) p5] a (TTerr K l last) := by
  intro f PZ s H Q tl act hc h
  refine ⟨_, pss_cons (ps_try_many (X := (cxOf C8.CX0 prog w K mg base Ng x sg g cdg A₁ st s H C8.E0).nox) (Wout := fun _ _ _ _ => False)
      (tb := fun W D σ H => ∃ Ech : XK, (∀ cls d σ' H', Ech cls d H' → W cls d σ' H') ∧ σ[0]? = some (some (.ref f)) ∧ PZ H ∧ tl Ech H fun _ H' => D.nx σ H')
      rfl rfl L2.takes0 (fun W pn xe tk _ => ?_) (hdsOk_of (hh s H))) (pss_one (ps_ret pe_str)), ?_⟩
  · constructor
    rintro pins s' σ H' D J ⟨Ech, below, slot, stands, rest⟩
    exact (pss_one (ps_expr (pos := p3) (act W pn xe Ech p1 p2 tk below) (hs := hsw s H))).run pins s' σ H' D J ⟨slot, stands, rest⟩
  · exact ⟨clW K Q l, fun cls d σ' H' hc => wMany_of hc, h0 f, hc, h⟩
end
/-- a lambda of X's def, its body's reading -/
structure LamB (X : Cx) (k : Nat) (L : LamSpec) (t : XK → TE) : Prop where
  q : L.q = X.env.qual ++ "<lambda>"
  d : LamD X.N X.env.scope L.scope L.df
  p : LamP L.params L.body L.scope X.env L.df
  b : ∀ (A : Around) (outer : List Env) (s : Shared) (H : Hp) (E : XK) (f c' : Addr), Room k (A.deeper (lamEnv X L.scope s.heap.objs.size f c')) → PE (lamCx X A outer s H E L.scope f c') L.body (t E)
/-- the def that tells errors: what is asked of it -/
structure ErrG (P : Program) (w : World) (K : PySem.W.Frag) (mg : Str → Option Value) (base : Heap) (g : Str) (l : List (Value × Str)) (last : Str) : Prop where
  ex : ∃ (a : Str) (ga : Addr) (pg : Arguments) (bg : List Stmt) (sg : Scope) (dV kV doc pm cdv ct oc : Value) (an od : Option Addr) (osl : Array (Option Value)) (Ng : List Str),
    mg g = some (.ref ga) ∧ PySem.W.keepIn K (.ref ga) = true ∧ K.lookup ga = some ⟨oc, od, .func (PySem.W.fnOf g g pg bg sg dV kV doc pm an cdv ct), osl⟩ ∧ PySem.W.codeIn K cdv g = true ∧ L2.Binds K (PySem.W.fnOf g g pg bg sg dV kV doc pm an cdv ct) [a] [] ∧ FnScope Ng [a] sg ∧ Ng[0]? = some a ∧ Vis sg a ∧
    (∀ (A₁ : Around) (st : List Env), GivesY P w K mg base A₁ st Ng g sg ga cdv bg a (TTerr K l last)) ∧ (a == ("__debug__" : Str)) = false ∧ (a == ("__classdict__" : Str)) = false
section
variable {X : Cx}
/-- g(f), f a lambda made by X's def, which was in the state s₀, called from the frames st -/
theorem err_code {pins : List (Addr × Obj)} {σ : L2.St} {H H₀ : Hp} {s s₀ : Shared} {A₁ : Around} {st : List Env} {fr ex : List Addr} {x : Str} {f : Addr} {k : Nat} {l : List (Value × Str)} {last : Str} {L : LamSpec} {t : XK → TE} {Q : VK}
    (G : ErrG X.prog X.w X.K X.mg X.base x l last) (B : LamB X k L t) (hr : Room (k + 2) A₁) (I : Inv X pins σ H₀ s₀) (hex : ∀ (y : Str) (c : Addr), X.env.cells.lookup y = some c → c ∉ ex) (un₀ : Un fr ex H₀ H s₀.heap s.heap) (e0 : Env0 X.prog X.w X.K X.mg X.base A₁ st s H)
    (hl : LamS H f L (cloFrom X.env.cells L.scope.names [])) (h : TTerr X.K l last (fun E H' Q' => t E σ H' Q') H Q) :
    ∃ ga, X.mg x = some (.ref ga) ∧ PySem.W.keepIn X.K (.ref ga) = true ∧ codeAny (model X.prog X.w) A₁ (.call (.ref ga) ⟨[.ref f], []⟩) (CR C8.CX0 st X.prog X.w H s Q C8.E0) s := by
  obtain ⟨a, ga, pg, bg, sg, dV, kV, doc, pm, cdv, ct, oc, an, od, osl, Ng, hm, kp, lk, hcg, hb, Sg, hNg, hva, hG, hd, hcd⟩ := G.ex
  obtain ⟨q, params, body, scope, df⟩ := L
  obtain rfl : q = X.env.qual ++ "<lambda>" := B.q
  refine ⟨ga, hm, kp, run_ofS (N := Ng) (ps := [a]) (us := [.ref f]) (vs := [.ref f]) lk hcg Sg hr e0 (hb s [.ref f] (e0.mod.kin.keeps fun b o e => (e0.bs b o e).1) rfl) (.cons rfl .nil) rfl fun hr' => ?_⟩
  obtain ⟨t', ht', hq'⟩ := hG A₁ st f (fun HZ => LamS HZ f ⟨X.env.qual ++ "<lambda>", params, body, scope, df⟩ (cloFrom X.env.cells scope.names [])) s H Q (fun E H' Q' => t E σ H' Q') (fun W pn xe E p1 p2 tk hW => pe_act4 (i := 0) I hex un₀ B.d B.p tk hW hr' (fun A outer s H c' hr2 => B.b A outer s H E f c' hr2) hNg hva hd hcd) hl h
  exact ⟨t', ht'.nox, hq'⟩
/-- the reading of g(lambda: body) -/
def tLam1 (P : Addr) (L : LamSpec) (cells : List (Str × Addr)) (TT : (XK → Hp → VK → Prop) → Hp → VK → Prop) (t : XK → TE) : TE := fun σ H Q => TabS H P L.q ∧ ∀ f H1, ExtP P H H1 → TabS H1 P L.q → H f = none → LamS H1 f L (cloFrom cells L.scope.names []) → TT (fun E H' Q' => t E σ H' Q') H1 Q
theorem pe_lam1 {x : Str} {c P : Addr} {k : Nat} {l : List (Value × Str)} {last : Str} {params : Arguments} {body : Expr} {scope : Scope} {df : Option (Str × Int)} {t : XK → TE} {p lpos pos : Pos} (hg : Gl X x) (G : ErrG X.prog X.w X.K X.mg X.base x l last)
    (B : LamB X k ⟨X.env.qual ++ "<lambda>", params, body, scope, df⟩ t) (TB : TabB X.base X.mg c P) (hcode : X.env.code = .ref c) (hr : Room (k + 2) X.A) (hdb : (x == ("__debug__" : Str)) = false := by decide) :
    PE X (.Call (.Name x p) [.Lambda params body scope lpos] [] pos) (tLam1 P ⟨X.env.qual ++ "<lambda>", params, body, scope, df⟩ X.env.cells (TTerr X.K l last) t) := by
  refine ⟨fun pins s σ H Q I h => ?_⟩
  obtain ⟨hT, h⟩ := h
  obtain ⟨a, ga, _, _, _, _, _, _, _, _, _, _, _, _, _, _, hm, kp, _⟩ := G.ex
  refine wpAny_Call_Name_kw (ld_glob I hg hm ?_ hdb)
  refine PySem.W.callWith_K (h₀ := X.base) I.ok.mod.kin kp ?_ (by rfl) (by rfl)
  change wpAny _ _ (spliced ((false, eval (.Lambda params body scope lpos) X.env) ::
    backTo pos (starEach [] X.env))) _ _ s
  refine Calls.spliced_cons (lam_make4 I TB hcode hT B.p (B.d.has I.ok) fun f H1 s' J1 eN T1 f0 hl => ?_)
  apply Calls.spliced_nil
  refine ⟨J1.kIn, ?_⟩
  obtain ⟨ga', hm', _, rc⟩ := err_code (ex := []) G B hr J1 (fun _ _ _ z => nomatch z) (Un.refl (fs := frs X.stack)) J1.env0 hl (h f H1 eN T1 f0 hl)
  rw [hm] at hm'
  cases hm'
  refine wpAny_call (codeAny_mono rc ?_)
  rintro (e | fl) s2 given
  · exact (given : False).elim
  · cases fl with
    | ret u => exact J1.after given
    | _ => exact (given : False).elim
/-- a lambda as a value -/
def tLamV (P : Addr) (L : LamSpec) (cells : List (Str × Addr)) : TE := fun _ H Q => TabS H P L.q ∧ ∀ f H1, ExtP P H H1 → TabS H1 P L.q → H f = none → LamS H1 f L (cloFrom cells L.scope.names []) → Q (.ref f) H1
theorem pe_lam {c P : Addr} {params : Arguments} {body : Expr} {scope : Scope} {df : Option (Str × Int)} {lpos : Pos} (d : LamD X.N X.env.scope scope df) (lp : LamP params body scope X.env df) (TB : TabB X.base X.mg c P) (hcode : X.env.code = .ref c) :
    PE X (.Lambda params body scope lpos) (tLamV P ⟨X.env.qual ++ "<lambda>", params, body, scope, df⟩ X.env.cells) :=
  ⟨fun pins s σ H Q I h => lam_make4 I TB hcode h.1 lp (d.has I.ok) fun f H1 s' J1 eN T1 f0 hl => ⟨.ref f, H1, J1, rfl, h.2 f H1 eN T1 f0 hl⟩⟩
/-- g(c), c a block's name that holds a lambda of the def X -/
theorem pe_errV {pins : List (Addr × Obj)} {σ₀ : L2.St} {H₀ : Hp} {s₀ : Shared} {x c : Str} {k ic : Nat} {l : List (Value × Str)} {last : Str} {bscope : Scope} {cl : List (Str × Addr)} {C : Addr} {fp : List Addr} {p pc pos : Pos} (G : ErrG X.prog X.w X.K X.mg X.base x l last) (hr : Room (k + 2) X.A)
    (I : Inv X pins σ₀ H₀ s₀) (hfp : ∀ b ∈ fp, FpOk X pins H₀ b) (hg : Gl (X.blk s₀ H₀ bscope (compEnvC bscope cl C X.env) fp) x) (hN : X.N[ic]? = some c) (hv : Vis (X.blk s₀ H₀ bscope (compEnvC bscope cl C X.env) fp).env.scope c)
    (hs : starEach [Expr.Name c pc] (compEnvC bscope cl C X.env) = [(false, eval (.Name c pc) (compEnvC bscope cl C X.env))]) (hdb : (x == ("__debug__" : Str)) = false := by decide) (hd : (c == ("__debug__" : Str)) = false := by decide) (hcd : (c == ("__classdict__" : Str)) = false := by decide) :
    PE (X.blk s₀ H₀ bscope (compEnvC bscope cl C X.env) fp) (.Call (.Name x p) [.Name c pc] [] pos)
      (fun σ H Q => ∃ f L t, σ[ic]? = some (some (.ref f)) ∧ LamB X k L t ∧ LamS H f L (cloFrom X.env.cells L.scope.names []) ∧ TTerr X.K l last (fun E H' Q' => t E σ₀ H' Q') H Q) := by
  refine ⟨fun pinsY s σ H Q IY h => ?_⟩
  obtain ⟨f, L, t, h1, B, hl, h⟩ := h
  obtain ⟨a, ga, _, _, _, _, _, _, _, _, _, _, _, _, _, _, hm, kp, _⟩ := G.ex
  refine wpAny_Call_Name_kw (ld_glob IY hg hm ?_ hdb)
  refine PySem.W.callWith_K (h₀ := X.base) IY.ok.mod.kin kp ?_ (by rw [hs] <;> rfl) (by rfl)
  rw [hs]
  show wpAny _ _ (spliced ((false, eval (.Name c pc) (compEnvC bscope cl C X.env)) :: backTo pos [])) _ _ s
  refine Calls.spliced_cons (thn ((pe_var (X := X.blk s₀ H₀ bscope (compEnvC bscope cl C X.env) fp) (pos := pc) (i := ic) hN hv hd hcd).run pinsY s σ H (fun v H1 => v = .ref f ∧ H1 = H) IY ⟨.ref f, h1, rfl, rfl⟩) fun u s1 ⟨v, H1, J1, r1, q1⟩ => ?_)
  obtain ⟨ev, eH⟩ := q1
  subst ev
  rw [eH] at J1
  obtain rfl : u = Value.ref f := r1
  apply Calls.spliced_nil
  refine ⟨J1.kIn, ?_⟩
  obtain ⟨ga', hm', _, rc⟩ := err_code (X := X) (st := X.stack) (A₁ := X.A) (ex := fp) G B hr I (fun y c e z => (hfp c z).2.2.2.2.1 y c e rfl) J1.base J1.env0 hl h
  rw [hm] at hm'
  cases hm'
  refine wpAny_call (codeAny_mono rc ?_)
  rintro (e | fl) s2 given
  · exact (given : False).elim
  · cases fl with
    | ret u => exact J1.after given
    | _ => exact (given : False).elim
end
end LamY
set_option Elab.async false
set_option linter.all false
set_option maxRecDepth 100000
set_option maxHeartbeats 4000000
namespace DV
open PySem PySem.Spec PyProof.Rows L2 LamX LamY
section
variable {X : Cx}
theorem pe_lcI {elt tg iter : Expr} {ifs : List Expr} {scope : Scope} {own : List (Str × Nat)} {pos : Pos} {wi : TI} {g : TG} {tt : L2.St → TT} {te : TE} (hc : X.calm = true) (hN : X.N.Nodup) (hi : PI X tg iter wi) (ok : BlkOk X.N X.env.scope scope own)
    (hg : ∀ (s : Shared) (H : Hp) (C : Addr) (cl : List (Str × Addr)) (fp : List Addr), PG (X.blk s H scope (compEnvC scope cl C X.env) fp) tg g)
    (ht : ∀ (pins : List (Addr × Obj)) (σ : L2.St) (s : Shared) (H : Hp) (C : Addr) (cl : List (Str × Addr)) (fp : List Addr), Inv X pins σ H s → (∀ b ∈ fp, FpOk X pins H b) → PTs (X.blk s H scope (compEnvC scope cl C X.env) fp) ifs (tt σ))
    (he : ∀ (s : Shared) (H : Hp) (C : Addr) (cl : List (Str × Addr)) (fp : List Addr), PE (X.blk s H scope (compEnvC scope cl C X.env) fp) elt te) (hs : ∀ x, foldedSetIterable iter X.env x = pure x := by intro _; rfl) :
    PE X (.ListComp elt [⟨tg, iter, ifs, 0⟩] scope pos) (fun σ H Q => tLc wi g (tt σ) te (own.map (·.2)) σ H Q) := by
  refine ⟨fun pins s σ H Q I h => ?_⟩
  rw [eval_ListComp]
  have caught : ∀ y ∈ scope.names, y.2 = .free → ∃ c, X.env.cells.lookup y.1 = some c := fun y hy e => (ok.free y hy e).elim (fun k => I.ok.has _ (.inl k)) fun k => I.ok.has _ (.inr k)
  refine wpAny_comprehension_free rfl hs (closure_ok caught) ok.kind (fun y hy e => by rw [ok.uniq y hy, e]) (thn (hi.run pins s σ H _ I h) fun xv s1 hx => thn hx fun itv s2 h2 => ?_)
  obtain ⟨it, fp, tn, J, H2, e, I2, T, st2, f2, q⟩ := h2
  subst e
  refine wpAny_newObj_type (newEnv_comp ?_) (by show 0 ≤ sizeLine; decide)
  -- the new list at L
  generalize hL : s2.heap.objs.size = L
  have freeL : H2 L = none := I2.hok.fresh (Nat.le_of_eq hL)
  obtain ⟨W, ⟨m0, w0⟩, turn⟩ := q L freeL
  generalize es3 : ({ s2 with heap := s2.heap.push { cls := .type "list", data := .seq ([] : List Value).toArray } } : Shared) = s3
  have hp3 : s3.heap = s2.heap.push { cls := .type "list", data := .seq ([] : List Value).toArray } := by rw [← es3]
  have up3 : ∀ b o, s2.heap.get? b = some o → s3.heap.get? b = some o := fun b o e => by rw [hp3]; exact Heap.get?_push_of_some _ e
  have I3 : Inv X pins σ (upd H2 L (.lst [])) s3 := by
    rw [← es3]
    refine I2.laid (t' := s2.toks) (fun b o e => Heap.get?_push_of_some _ e) (Nat.le_of_eq hL) ⟨Nat.zero_le _, [], 0, .nil, ?_⟩
    rw [← hL]
    exact Heap.get?_push_size _ rfl
  have lt2 : ∀ b ∈ fp, b < s2.heap.objs.size := fun b hb => (T.obj _ _ st2 b hb).elim fun o e => Heap.lt_size e.1
  have f3 : ∀ b ∈ fp, FpOk X pins (upd H2 L (.lst [])) b ∧ b < s3.heap.objs.size := fun b hb => by
    have lt := lt2 b hb
    refine ⟨⟨?_, (f2 b hb).2⟩, by rw [hp3, Heap.size_push]; exact Nat.lt_succ_of_lt lt⟩
    rw [upd_ne (by rw [← hL]; exact Nat.ne_of_lt lt)]
    exact (f2 b hb).1
  have st3 : tn 0 s3.heap := T.keep _ _ _ st2 fun b _ o e => up3 b o e
  have I4 := block_start I3 ok hN f3
  have pg := hg s3 (upd H2 L (.lst [])) s3.heap.objs.size (cellsFrom (s3.heap.objs.size + 1) scope.names (cloFrom X.env.cells scope.names [])) fp
  have pt := ht pins σ s3 (upd H2 L (.lst [])) s3.heap.objs.size (cellsFrom (s3.heap.objs.size + 1) scope.names (cloFrom X.env.cells scope.names [])) fp I3 fun b hb => (f3 b hb).1
  have pe := he s3 (upd H2 L (.lst [])) s3.heap.objs.size (cellsFrom (s3.heap.objs.size + 1) scope.names (cloFrom X.env.cells scope.names [])) fp
  have away : ∀ b ∈ fp, (upd H2 L (.lst [])) b = none := fun b hb => (f3 b hb).1.1
  show codeAny _ _ (.compStart (.ListComp elt [⟨tg, iter, ifs, 0⟩] scope pos) 0 (.ref it) (.ref L) (compEnvC scope (cellsFrom (s3.heap.objs.size + 1) scope.names (cloFrom X.env.cells scope.names [])) s3.heap.objs.size X.env)) _ { s3 with heap := pushCells (s3.heap.push { cls := .type "dict", data := .dict #[] }) scope.names }
  generalize hce : compEnvC scope (cellsFrom (s3.heap.objs.size + 1) scope.names (cloFrom X.env.cells scope.names [])) s3.heap.objs.size X.env = ce at I4 pg pt pe ⊢
  have home : ce.locals = s3.heap.objs.size := by subst hce; rfl
  generalize eH3 : upd H2 L (.lst []) = H3 at I3 I4 pg pt pe w0 away f3
  generalize es4 : ({ s3 with heap := pushCells (s3.heap.push { cls := .type "dict", data := .dict #[] }) scope.names } : Shared) = s4 at I4 ⊢
  have st4 : tn 0 s4.heap := T.keep _ _ _ st3 fun b _ o e => by rw [← es4]; exact pushCells_keeps _ _ _ _ (Heap.get?_push_of_some _ e)
  have calmFp : ∀ {σ' : L2.St} {H' : Hp} {s' : Shared}, Inv (X.blk s3 H3 scope ce fp) [] σ' H' s' → (∀ b ∈ fp, H' b = none) → ∀ b ∈ fp, FpOk (X.blk s3 H3 scope ce fp) [] H' b := fun {σ' H' s'} J' hn b hb =>
    ⟨hn b hb, (J'.ok.exf b hb).1, J'.ok.exfs b hb, .inl hb, fun x c e => (J'.ok.exf b hb).2 x c e, fun p hp => absurd (show p ∈ ([] : List (Addr × Obj)) ++ [] from hp) (by simp)⟩
  refine codeAny_compStart_list ?loop (T.self X.A 0 _ _ _ st4 ?loop)
  case loop =>
    refine compLoop_any (fun n s' => ∃ i H', Inv (X.blk s3 H3 scope ce fp) [] (wipe σ (own.map (·.2))) H' s' ∧ tn i s'.heap ∧ (∀ b ∈ fp, H' b = none) ∧ W i n H') ?_ m0 ⟨0, H3, I4, st4, away, w0⟩
    rintro n s5 ⟨i, H5, I5, st5, n5, w5⟩
    rcases turn i n H5 w5 with ⟨stop, qq⟩ | ⟨go, Nx, hNx, step⟩
    · refine thnF (T.done (X.blk s3 H3 scope ce fp) rfl rfl rfl hc i [] s5 _ H5 (fun _ _ => False) I5 (calmFp I5 n5) st5 stop) fun r s6 ⟨hr, I6⟩ => ?_
      subst hr
      have back : Inv X pins σ H5 s6 := I3.call' (ch := fp) I6.os I6.base I6.hok I6.bare fun b hb => ⟨(f3 b hb).1.2.2.2.1, (f3 b hb).1.2.1, (f3 b hb).1.2.2.2.2.1, (f3 b hb).1.2.2.2.2.2⟩
      have gone : H5 s3.heap.objs.size = none := by rw [← home]; exact I6.free
      obtain ⟨m, hn, _⟩ := I6.loc
      have hn : s6.heap.Ns ce.locals m := hn
      rw [home] at hn
      refine ⟨m, hn, fun h'' sb => ?_⟩
      obtain ⟨f0, f1, f2, f3, f4, f5⟩ := I3.fpOk (Nat.le_refl _) gone
      exact ⟨.ref L, H5, back.turned (t' := s6.toks) (fun b o hb e => (sb.2 b hb).trans e) f0 f1 f3 f4 f5, rfl, qq⟩
    · refine thnF (T.item (X.blk s3 H3 scope ce fp) rfl rfl rfl hc i [] s5 _ H5 (fun _ _ => False) I5 (calmFp I5 n5) st5 go) fun r s6 ⟨u, hr, h6⟩ => ?_
      subst hr
      refine thnF h6 fun _ s7 ⟨x, H7, I7, r7, y7, st7, n7⟩ => ?_
      have pinned := I7.pinned (calmFp I7 n7) (T.obj _ _ st7)
      refine thnF (pg.run _ s7 _ H7 x u _ pinned r7 (step x H7 y7)) fun _ s8 ⟨σ8, H8, I8, hw8, q8⟩ => ?_
      refine thnF (pt.run _ s8 σ8 H8 _ I8 q8) fun b s9 ⟨H9, I9, q9⟩ => ?_
      have on : ∀ {s' : Shared} {H' : Hp}, Inv (X.blk s3 H3 scope ce fp) ([] ++ pinsAt fp s7.heap) σ8 H' s' → Nx H' → ∃ m, m < n ∧ ∃ i H', Inv (X.blk s3 H3 scope ce fp) [] (wipe σ (own.map (·.2))) H' s' ∧ tn i s'.heap ∧ (∀ b ∈ fp, H' b = none) ∧ W i m H' := fun {s' H'} J' nx => by
        obtain ⟨m', lt, w'⟩ := hNx H' nx
        have still : ∀ b ∈ fp, ∀ o, s7.heap.get? b = some o → s'.heap.get? b = some o ∧ H' b = none := fun b hb o e =>
          let z := J'.pin (b, o) (List.mem_append_right _ (List.mem_append_right _ (mem_pinsAt hb e)))
          ⟨z.1, z.2.1⟩
        refine ⟨m', lt, i + 1, H', (J'.unpinned (pins := [])).weak (by rw [← hw8, wipe_length]) (fun j v e => ?_), T.keep _ _ _ st7 fun b hb o e => (still b hb o e).1, fun b hb => ?_, w'⟩
        · rw [← hw8] at e
          exact (wipe_some e).1
        · exact (T.obj _ _ st7 b hb).elim fun o e => (still b hb o e.1).2
      cases b with
      | false =>
        simp only [Bool.false_eq_true, if_false] at q9 ⊢
        exact on I9 q9
      | true =>
        simp only [if_true] at q9 ⊢
        refine thnF (pe.run _ s9 σ8 H9 _ I9 q9) fun z s10 ⟨yv, H10, I10, r10, acc, hL10, hz10, nx⟩ => ?_
        exact app_ok (X := X.blk s3 H3 scope ce fp) I10 hL10 hz10 r10 fun s11 I11 => on I11 nx

end
end DV
set_option Elab.async false
set_option linter.all false
set_option maxRecDepth 100000
set_option maxHeartbeats 4000000
namespace DV
open PySem PySem.Spec PyProof.Rows L2 LamX LamY
theorem skyN {B : Heap} {l : List Env} {a : Addr} {Z Z' : Obj → Prop} {L : Addr} {h : Heap} (z : ∀ o, Z o → Z' o) (x : Sky B l a Z L h) : Sky B l a Z' L h := by
  rcases x with ⟨x1, x2, x3, oe, vs, x4, x5, x6⟩ | x | ⟨x1, x2, x3, x4⟩
  · exact .inl ⟨x1, x2, x3, oe, vs, x4, z _ x5, x6⟩
  · exact .inr (.inl (L2H.flyingZ_imp z x))
  · exact .inr (.inr ⟨x1, x2, x3, L2H.tracedZ_imp z x4⟩)
/-- who takes any exception takes one without context -/
theorem takesN_of {X : Cx} {W : WX} (tk : L2.Takes X W) : L2N.Takes X W := fun u s' ⟨a, B, sI, pins, σ, H, cls, d, e, I, nb, up, sky, r⟩ => tk u s' ⟨a, B, sI, pins, σ, H, cls, d, e, I, nb, up, skyN (fun o z => z.zc) sky, r⟩
/-- the error's word of what a call made -/
def errR (tab : Str → Option Str) (last : Str) : R Val → R Val
  | .ok _ S1 => .ok (.d (.str last)) S1
  | .er e S1 => match tab e.cls with
    | some r => .ok (.d (.str r)) S1
    | none => .bad
  | .bad => .bad
def errE (x : Str) (kt : Nat) (tab : Str → Option Str) (last : Str) (fb : DE) : DE := fun sl S => match S[kt]? with
  | some (.gh (.tab y)) => if y = x then errR tab last (fb sl S) else .bad
  | _ => .bad
def lamE (x : Str) (kt j : Nat) (L : LamSpec) (cells : List (Str × Addr)) : DE := fun _ S => match S[kt]? with
  | some (.gh (.tab y)) => if y = x then .ok (.loc S.length) (S ++ [.gh (.lam j L cells)]) else .bad
  | _ => .bad
/-- what the clauses say of the classes that are told -/
def ClsOk (K : PySem.W.Frag) (mg : Str → Option Value) (l : List (Value × Str)) (tab : Str → Option Str) : Prop :=
  ∀ (x r : Str) (C : Addr), tab x = some r → mg x = some (.ref C) → ∀ (Q : VK) (d : Option Addr) (H : Hp), Q (.str r) H → clW K Q l (.ref C) d H
theorem codeHd_one {K : PySem.W.Frag} {c P P' : Addr} (h : PySem.W.codeHdIn K c P = true) (h' : PySem.W.codeHdIn K c P' = true) : P = P' := by
  unfold PySem.W.codeHdIn at h h'
  split at h
  · rename_i vs sl e
    rw [e] at h'
    simp only [Bool.and_eq_true] at h h'
    have a := h.1.1.1.1.1
    have b := h'.1.1.1.1.1
    split at a
    · rename_i P1 e1
      rw [e1] at b
      have a := beq_iff_eq.mp a
      have b := beq_iff_eq.mp b
      rw [← a, ← b]
    · cases a
  · cases h
section
variable {K : PySem.W.Frag} {mg : Str → Option Value} {W : WX} {σ : CxSt} {ι : Nat → Addr} {F H H1 : Hp} {S : Sto} {x : Str} {kt : Nat}
/-- the table is written: the store stands -/
theorem tab_step (rel : Rel K ι F H S) (e : S[kt]? = some (.gh (.tab x))) (ex : ExtP (ι kt) H H1) (t1 : TabS H1 (ι kt) (lamN x)) : Rel K ι F H1 S ∧ Stp ι F H S.length ι F H1 S.length := by
  have hk : kt < S.length := (List.getElem?_eq_some_iff.mp e).1
  obtain ⟨f0, ch, ts⟩ := rel.obj kt _ e
  obtain ⟨ps, hP, _⟩ := id ts
  have lstN : ∀ {a vs}, H a = some (.lst vs) → a ≠ ι kt := fun {a vs} h z => by rw [z, hP] at h; cases h
  have codN : ∀ {a q}, H a = some (CodeO a q) → a ≠ ι kt := fun {a q} h z => by
    rw [z, hP] at h
    exact codeO_ne _ (Option.some.inj h).symm
  refine ⟨⟨fun a o h => ex a o (rel.sub _ _ h) (fun z => by rw [z, f0] at h; cases h), rel.inj, fun k o ek => ?_⟩, Nat.le_refl _, fun _ _ => rfl, Same.refl _, fun a o h hn => ex a o h (Ne.symm (hn kt hk)), fun a o h => ?_, fun _ h1 h2 => absurd (Nat.lt_of_le_of_lt h1 h2) (Nat.lt_irrefl _), fun a o h => .inl h⟩
  · have h := rel.obj k o ek
    cases o with
    | frz ds => exact h
    | lst xs =>
      obtain ⟨g0, vs, g1, g2⟩ := h
      exact ⟨g0, vs, ex _ _ g1 (lstN g1), g2⟩
    | gh g =>
      obtain ⟨g0, g2⟩ := h
      by_cases q : k = kt
      · subst q
        rw [e] at ek
        cases ek
        exact ⟨g0, g2.1, t1⟩
      · have ne : ι k ≠ ι kt := fun z => q (rel.inj k kt ((List.getElem?_eq_some_iff.mp ek).1) hk z)
        refine ⟨g0, ?_⟩
        cases g with
        | tab y =>
          obtain ⟨g1, ps', a1, a2, a3⟩ := g2
          refine ⟨g1, ps', ex _ _ a1 ne, a2, fun pos cv hc => ?_⟩
          obtain ⟨c, b1, b2⟩ := a3 pos cv hc
          exact ⟨c, b1, ex _ _ b2 (codN b2)⟩
        | lam j L cl => exact LamS.ext g2 fun b o hb _ n => ex b o hb (fun z => by rw [z, hP] at hb; exact n _ (Option.some.inj hb).symm)
        | dct kvs =>
          obtain ⟨es, ep, xs, vs, h1⟩ := g2
          exact ⟨es, ep, xs, vs, h1.ext (Same.refl _) ((ex _ _ h1.at_ ne).trans h1.at_.symm)⟩
        | dci kvs => exact ex _ _ g2 ne
  · by_cases q : a = ι kt
    · obtain ⟨ps', a1, _⟩ := t1
      exact ⟨_, by rw [q]; exact a1⟩
    · exact ⟨o, ex a o h q⟩
/-- a thing that stands in the heap gets a place -/
theorem place_new {g : Gt} {f : Addr} (rel : Rel K ι F H1 S) (st : Stp ι F H S.length ι F H1 S.length) (h0 : H f = none) (hF : F f = none) (hg : GhR K F H1 f g) (hn : ∀ k, k < S.length → ι k ≠ f) :
    ∃ ι', Stp ι F H S.length ι' F H1 (S ++ [Ob.gh g]).length ∧ Rel K ι' F H1 (S ++ [.gh g]) ∧ ι' S.length = f := by
  let ι' : Nat → Addr := fun k => if k = S.length then f else ι k
  have ag : ∀ k, k < S.length → ι' k = ι k := fun k hk => if_neg (Nat.ne_of_lt hk)
  have at_ : ι' S.length = f := if_pos rfl
  have hlen : (S ++ [Ob.gh g]).length = S.length + 1 := by simp
  refine ⟨ι', ⟨by omega, ag, st.ff, st.out, st.dom, fun k h1 h2 => ?_, st.fnew⟩, ⟨rel.sub, fun i j hi hj e => ?_, fun k o e => ?_⟩, at_⟩
  · have : k = S.length := by omega
    rw [this, at_]
    exact h0
  · rw [hlen] at hi hj
    by_cases qi : i = S.length
    · by_cases qj : j = S.length
      · omega
      · rw [qi, at_, ag j (by omega)] at e
        exact absurd e.symm (hn j (by omega))
    · by_cases qj : j = S.length
      · rw [qj, at_, ag i (by omega)] at e
        exact absurd e (hn i (by omega))
      · rw [ag i (by omega), ag j (by omega)] at e
        exact rel.inj i j (by omega) (by omega) e
  · rw [hlen]
    by_cases q : k = S.length
    · subst q
      rw [List.getElem?_append_right (Nat.le_refl _)] at e
      simp at e
      subst e
      rw [at_]
      exact ⟨hF, hg⟩
    · have hk : k < S.length := by
        have := (List.getElem?_eq_some_iff.mp e).1
        rw [hlen] at this
        omega
      rw [List.getElem?_append_left hk] at e
      rw [ag k hk]
      have := rel.obj k o e
      cases o with
      | frz x => exact this
      | lst ys =>
        obtain ⟨g0, ws, g1, g2⟩ := this
        exact ⟨g0, ws, g1, g2.mono (Nat.le_succ _) ag (Same.refl _)⟩
      | gh x => exact this
/-- what is at a place is not what is nowhere -/
theorem Rel.off (rel : Rel K ι F H S) {f : Addr} (h0 : H f = none) : ∀ k, k < S.length → ι k ≠ f := rel.ne h0
variable {tab : Str → Option Str} {last : Str} {fb : DE} {P : Addr} {Q : VK} {l : List (Value × Str)} {sl : Sl}
/-- the word, however the body ends -/
theorem err_end (cl : ClsOk K mg l tab) (hz : sl.length ≤ σ.length) (hs : SlR K ι F S.length σ sl) (rel : Rel K ι F H S) {n : Nat} {σ' : CxSt} {ι₀ : Nat → Addr} {F₀ H₀ : Hp} {Pp : Val → Sto → (Nat → Addr) → Hp → Hp → Prop} (st : Stp ι₀ F₀ H₀ n ι F H S.length)
    (h : Aft K mg W σ' ι₀ F₀ H₀ n (errR tab last (fb sl S)) Pp) (hQ : ∀ (r : Str) (S' : Sto) (ι' : Nat → Addr) (F' H' : Hp), errR tab last (fb sl S) = R.ok (Val.d (.str r)) S' → Stp ι F H S.length ι' F' H' S'.length → Rel K ι' F' H' S' → Q (.str r) H') :
    TTerr K l last (fun E H' Q' => tE K mg (WE0 E) fb σ H' Q') H Q := by
  refine ⟨ι, F, S, sl, hz, hs, rel, ?_⟩
  cases ef : fb sl S with
  | ok v S1 => exact fun ι' F' H' s r u ru => hQ last S1 ι' F' H' (by rw [ef] <;> rfl) s r
  | er e S1 =>
    rw [ef] at h
    have h2 : Aft K mg W σ' ι₀ F₀ H₀ n (match tab e.cls with | some r => R.ok (.d (.str r)) S1 | none => .bad) Pp := h
    cases et : tab e.cls with
    | none => rw [et] at h2; exact h2.elim
    | some r =>
      intro ι' F' H' cls dd s rr ee
      obtain ⟨⟨C, e1, e2⟩, _⟩ := ee
      subst e1
      refine cl _ _ C et e2 Q dd H' (hQ r S1 ι' F' H' ?_ s rr)
      rw [ef]
      show (match tab e.cls with | some r => R.ok (Val.d (.str r)) S1 | none => R.bad) = _
      rw [et]
  | bad => rw [ef] at h; exact h.elim
end
section
variable {X : Cx} {W : WX} {x g : Str} {kt k : Nat} {tab : Str → Option Str} {last : Str} {fb : DE} {P : Addr} {l : List (Value × Str)} {params : Arguments} {body : Expr} {scope : Scope} {p lpos pos : Pos} {df : Option (Str × Int)}
/-- what the frame of a def that makes lambdas knows: its table -/
structure TabC (X : Cx) (x : Str) : Prop where
  ex : ∃ P, PySem.W.codeHdIn X.K (codeOf X.K x) P = true ∧ LamX.TabB X.base X.mg (codeOf X.K x) P ∧ X.env.code = .ref (codeOf X.K x) ∧ X.env.qual ++ "<lambda>" = lamN x
theorem q_err (G : ErrG X.prog X.w X.K X.mg X.base g l last) (cl : ClsOk X.K X.mg l tab) (TC : TabC X x) (hr : Room (k + 2) X.A)
    (B : LamB X k ⟨X.env.qual ++ "<lambda>", params, body, scope, df⟩ fun E => tE X.K X.mg (WE0 E) fb) (hg : Gl X g := by rfl) (hdb : (g == ("__debug__" : Str)) = false := by decide) :
    QE X W (.Call (.Name g p) [.Lambda params body scope lpos] [] pos) (errE x kt tab last fb) := by
  obtain ⟨P, hP, TB, hcode, hq⟩ := TC.ex
  refine PE.imp (pe_lam1 (P := P) hg G B TB hcode hr hdb) fun σ H Q h => ?_
  obtain ⟨ι, F, S, sl, hz, hs, rel, q⟩ := h
  unfold errE at q
  split at q
  · rename_i y ey
    split at q
    · rename_i exy
      subst exy
      obtain ⟨f0, ch, ts⟩ := rel.obj kt _ ey
      have eP : ι kt = P := codeHd_one ch hP
      subst eP
      show TabS H (ι kt) (X.env.qual ++ "<lambda>") ∧ _
      rw [hq]
      refine ⟨ts, fun f H1 ex t1 h0 hl => ?_⟩
      obtain ⟨rel1, st1⟩ := tab_step rel ey ex t1
      refine err_end cl hz hs rel1 st1 q fun r S' ι' F' H' e st r' => ?_
      rw [e] at q
      exact q ι' F' H' (st1.trans st) r' _ (.str _)
    · exact q.elim
  · exact q.elim
theorem q_lam {j : Nat} {L : LamSpec} (TC : TabC X x) (d : LamD X.N X.env.scope scope df) (lp : LamP params body scope X.env df) (hL : L = ⟨X.env.qual ++ "<lambda>", params, body, scope, df⟩) : QE X W (.Lambda params body scope lpos) (lamE x kt j L X.env.cells) := by
  obtain ⟨P, hP, TB, hcode, hq⟩ := TC.ex
  refine PE.imp (pe_lam (P := P) d lp TB hcode) fun σ H Q h => ?_
  obtain ⟨ι, F, S, sl, hz, hs, rel, q⟩ := h
  unfold lamE at q
  split at q
  · rename_i y ey
    split at q
    · rename_i exy
      subst exy
      obtain ⟨f0, ch, ts⟩ := rel.obj kt _ ey
      have eP : ι kt = P := codeHd_one ch hP
      subst eP
      show TabS H (ι kt) (X.env.qual ++ "<lambda>") ∧ _
      rw [hq]
      refine ⟨ts, fun f H1 ex t1 h0 hl => ?_⟩
      obtain ⟨rel1, st1⟩ := tab_step rel ey ex t1
      obtain ⟨ι', st, r', at_⟩ := place_new (g := .lam j L X.env.cells) rel1 st1 h0 (rel.sub.free h0) (by subst hL; rw [hq]; exact hl) (rel.off h0)
      exact q ι' F H1 st r' _ ⟨by simp, by rw [at_]⟩
    · exact q.elim
  · exact q.elim
/-! ### + of owned lists -/
def catF (fa fb : DE) : DF := fun sl S => (fa sl S).bind fun a S1 => (fb sl S1).bind fun b S2 => match lstAt S2 a, lstAt S2 b with
  | some (_, xs), some (_, ys) => if xs.length + ys.length ≤ sizeLine then .ok (xs ++ ys) S2 else .bad
  | _, _ => .bad
theorem f_cat {a b : Expr} {fa fb : DE} (ha : QE X W a fa) (hb : QE X W b fb) : QF X W (.BinOp a .Add b pos) (catF fa fb) := by
  refine PE.imp (pe_op op_cat ha hb) fun σ H Q ⟨ι, F, S, sl, hz, hs, rel, q⟩ => ?_
  refine ⟨ι, F, S, sl, hz, hs, rel, Aft.imp (Aft.bind q) fun x S1 ι1 F1 H1 ⟨s1, r1, h1⟩ u ru => ?_⟩
  refine ⟨ι1, F1, S1, sl, hz, hs.stp s1, r1, Aft.imp h1.bind fun y S2 ι2 F2 H2 ⟨s2, r2, h2⟩ v rv => ?_⟩
  split at h2
  · rename_i k1 xs k2 ys e1 e2
    obtain ⟨z1, e1'⟩ := lstAt_eq e1
    obtain ⟨z2, e2'⟩ := lstAt_eq e2
    subst z1 z2
    split at h2
    · rename_i hl
      obtain ⟨_, vs, g1, g2⟩ := r2.obj _ _ e1'
      obtain ⟨_, us, g3, g4⟩ := r2.obj _ _ e2'
      have ru := ru.stp s2
      exact ⟨ι2 k1, ι2 k2, vs, us, ru.2, rv.2, g1, g3, by rw [g2.length, g4.length]; exact hl, fun p hp => h2 ι2 F2 H2 .refl r2 p _ hp (g2.append g4)⟩
    · exact h2.elim
  · exact h2.elim
/-! ### [c for c in list if g(c) != w], all of them w -/
open Classical in
noncomputable def lamAt (LT : Nat → LamSpec) (fbs : List DE) (cells : List (Str × Addr)) (S : Sto) : Val → Option DE
  | .loc p => match S[p]? with
    | some (.gh (.lam j L c)) => if L = LT j ∧ c = cells then fbs[j]? else none
    | _ => none
  | _ => none
noncomputable def lamGo (tab : Str → Option Str) (last w : Str) (LT : Nat → LamSpec) (fbs : List DE) (cells : List (Str × Addr)) (sl : Sl) (k : Nat) : Nat → Nat → Sto → R Unit
  | n, i, S => match S[k]? with
    | some (.lst ys) => match ys[i]? with
      | none => .ok () S
      | some v => match n with
        | 0 => .bad
        | n + 1 => match lamAt LT fbs cells S v with
          | some fb => match errR tab last (fb sl S) with
            | .ok (.d (.str r)) S1 => if r = w then lamGo tab last w LT fbs cells sl k n (i + 1) S1 else .bad
            | _ => .bad
          | none => .bad
    | _ => .bad
noncomputable def lamF (tab : Str → Option Str) (last w : Str) (LT : Nat → LamSpec) (fbs : List DE) (cells : List (Str × Addr)) (fit : DE) : DF := fun sl S => (fit sl S).bind fun v S1 => match lstAt S1 v with
  | some (k, ys) => (lamGo tab last w LT fbs cells sl k ys.length 0 S1).bind fun _ S2 => .ok [] S2
  | none => .bad
/-- the reading of the test -/
def ttV (X : Cx) (k ic : Nat) (l : List (Value × Str)) (last w : Str) (σ₀ : L2.St) : TT := fun σ H Q => ∃ f L t, σ[ic]? = some (some (.ref f)) ∧ LamB X k L t ∧ LamS H f L (cloFrom X.env.cells L.scope.names []) ∧
  TTerr X.K l last (fun E H' Q' => t E σ₀ H' Q') H fun u H1 => rNeD X.K u (.str w) H1 fun v H2 => ∃ b, v = .bl b ∧ Q b H2
theorem lam_lc_ok {tab : Str → Option Str} {last w : Str} {LT : Nat → LamSpec} {fbs : List DE} {fit : DE} {ic : Nat} (cl : ClsOk X.K X.mg l tab) (LB : ∀ j fb, fbs[j]? = some fb → LamB X k (LT j) fun E => tE X.K X.mg (WE0 E) fb) {σ : CxSt} {H : Hp} {Q : VK}
    (hw : SeqAt.shaped (.str w) = true) (hic : ic < σ.length) (h : tF X.K X.mg W (lamF tab last w LT fbs X.env.cells fit) σ H Q) : tLc (iList X.K (tE X.K X.mg W fit)) (gName ic) (ttV X k ic l last w σ) (tVar ic) [ic] σ H Q := by
  obtain ⟨ι, F, S, sl, hz, hs, rel, q⟩ := h
  refine ⟨ι, F, S, sl, hz, hs, rel, Aft.imp (Aft.bind q) fun v S1 ι1 F1 H1 ⟨s1, r1, h1⟩ u ru => ?_⟩
  have hs1 := hs.stp s1
  split at h1
  case h_2 => exact h1.elim
  rename_i k0 ys0 e0
  obtain ⟨ev, e0'⟩ := lstAt_eq e0
  subst ev
  obtain ⟨hk0, rfl⟩ := ru
  obtain ⟨_, vs0, g0, g1⟩ := r1.obj _ _ e0'
  refine ⟨ι1 k0, rfl, ⟨vs0, SqL.of g0⟩, fun D hD => ?_⟩
  refine ⟨fun i m H => ∃ (ι : Nat → Addr) (F G : Hp) (S : Sto), H = upd G D (.lst []) ∧ G D = none ∧ Rel X.K ι F G S ∧ Stp ι1 F1 H1 S1.length ι F G S.length ∧
    Aft X.K X.mg W σ ι F G S.length ((lamGo tab last w LT fbs X.env.cells sl k0 m i S).bind fun _ S2 => .ok [] S2) (fun xs S' ι' F' H' => ∀ p us, H' p = none → RVs X.K ι' F' S'.length us xs → Q (.ref p) (upd H' p (.lst us))),
    ⟨ys0.length, ι1, F1, H1, S1, rfl, hD, r1, .refl, h1⟩, ?_⟩
  rintro i m _ ⟨ι2, F2, G, S2, rfl, hG, rel2, st2, af⟩
  have hs2 := hs1.stp st2
  unfold lamGo at af
  split at af
  case h_2 => exact af.elim
  rename_i ys ey
  obtain ⟨f0, vs, g2, g3⟩ := rel2.obj _ _ ey
  rw [st2.ag k0 hk0] at g2
  have neD : ι1 k0 ≠ D := fun z => by rw [z, hG] at g2; cases g2
  have gD : upd G D (.lst []) (ι1 k0) = some (.lst vs) := by rw [upd_ne neD]; exact g2
  split at af
  · rename_i en
    refine .inl ⟨⟨vs, SqL.of gD, by rw [g3.length]; exact List.getElem?_eq_none_iff.mp en⟩, ?_⟩
    exact af ι2 F2 G .refl rel2 D [] hG .nil
  · rename_i v ev
    split at af
    · exact af.elim
    · rename_i m
      split at af
      case h_2 => exact af.elim
      rename_i fb efb
      obtain ⟨vv, evv, rvv⟩ := g3.get ev
      unfold lamAt at efb
      split at efb
      case h_2 => cases efb
      rename_i pp
      obtain ⟨hpp, rfl⟩ := rvv
      split at efb
      case h_2 => cases efb
      rename_i j L cc epp
      split at efb
      case isFalse => cases efb
      rename_i hc
      obtain ⟨rfl, rfl⟩ := hc
      obtain ⟨fp0, gl⟩ := rel2.obj _ _ epp
      have relA : Rel X.K ι2 F2 (upd G D (.lst [])) S2 := rel2.beside hG
      have glA : GhR X.K F2 (upd G D (.lst [])) (ι2 pp) (.lam j (LT j) X.env.cells) := (relA.obj _ _ epp).2
      refine .inr ⟨⟨vs, _, SqL.of gD, evv⟩, fun H' => ∃ m', m' < m + 1 ∧ ∃ (ι : Nat → Addr) (F G : Hp) (S : Sto), H' = upd G D (.lst []) ∧ G D = none ∧ Rel X.K ι F G S ∧ Stp ι1 F1 H1 S1.length ι F G S.length ∧
        Aft X.K X.mg W σ ι F G S.length ((lamGo tab last w LT fbs X.env.cells sl k0 m' (i + 1) S).bind fun _ S2 => .ok [] S2) (fun xs S' ι' F' H' => ∀ p us, H' p = none → RVs X.K ι' F' S'.length us xs → Q (.ref p) (upd H' p (.lst us))), fun H' h => h, fun x H2 hy => ?_⟩
      obtain ⟨rfl, hy⟩ := hy
      have hy := hy vs (SqL.of gD)
      rw [evv] at hy
      cases hy
      refine ⟨wipe_set (List.mem_singleton.mpr rfl) |>.trans (wipe_wipe _ _), ι2 pp, LT j, _, ?_, LB j fb efb, glA, ?_⟩
      · have : ic < (L2.wipe σ [ic]).length := by rw [wipe_length]; exact hic
        exact List.getElem?_set_self this
      · have stA : Stp ι2 F2 G S2.length ι2 F2 (upd G D (.lst [])) S2.length := ⟨Nat.le_refl _, fun _ _ => rfl, Same.refl _, fun a o h _ => by rw [upd_ne (ne_of_none h hG)]; exact h, fun a o h => ⟨o, by rw [upd_ne (ne_of_none h hG)]; exact h⟩, fun _ h1 h2 => absurd (Nat.lt_of_le_of_lt h1 h2) (Nat.lt_irrefl _), fun a o h => .inl h⟩
        have af0 : Aft X.K X.mg W σ ι2 F2 G S2.length (errR tab last (fb sl S2)) fun _ _ _ _ _ => True := by
          cases eR : errR tab last (fb sl S2) with
          | bad => rw [eR] at af; exact af.elim
          | ok a b => exact fun _ _ _ _ _ => trivial
          | er a b => rw [eR] at af; exact af.elim
        refine err_end cl hz (hs2.stp stA) relA stA af0 fun r S' ι' F' H' e st r' => ?_
        rw [e] at af
        dsimp only at af
        split at af
        case isFalse => exact af.elim
        rename_i er
        subst er
        obtain ⟨stH, hDd, f0', nD⟩ := Stp.hide rel2 hG st
        refine d_ne (K := X.K) F' H' (.str r) (.str r) (.str r) (.str r) (.bool false) _ r'.sub (.inl (.str r)) (.inl (.str r)) ?_ fun t F3 H3 g dt => ?_
        · have hev : PyData.eqv (.str r) (.str r) = true := by simp [PyData.eqv]
          unfold DV.neD
          rw [hw, hev]
          rfl
        · cases dt
          have st3 : Stp ι2 F2 (upd G D (.lst [])) S2.length ι' F3 H3 S'.length := st.trans g.stp
          obtain ⟨stH3, hDd3, f03, nD3⟩ := Stp.hide rel2 hG st3
          refine ⟨false, rfl, iteF ⟨m, Nat.lt_succ_self m, ι', F3, hid H3 D, S', (upd_hid_self hDd3).symm, hid_self, (r'.grow g).hide f03 nD3 hDd3, st2.trans stH3, Aft.stp af stH3⟩⟩
theorem f_lamlc {tab : Str → Option Str} {last w c : Str} {LT : Nat → LamSpec} {fbs : List DE} {fit : DE} {ic kk : Nat} {iter : Expr} {bscope : Scope} {pc p1 p2 p3 p4 p5 : Pos} (hc : X.calm = true) (hN : X.N.Nodup) (G : ErrG X.prog X.w X.K X.mg X.base g l last) (cl : ClsOk X.K X.mg l tab) (hr : Room (k + 2) X.A)
    (LB : ∀ j fb, fbs[j]? = some fb → LamB X k (LT j) fun E => tE X.K X.mg (WE0 E) fb) (hi : QE X W iter fit) (hw : SeqAt.shaped (.str w) = true) (ok : BlkOk X.N X.env.scope bscope [(c, ic)]) (hic : X.N[ic]? = some c)
    (hloc : InBlk X bscope fun Y => Loc Y.env.scope c ∧ (Y.fn c = true ∨ Y.env.scope.names.lookup c = some .local) ∧ Vis Y.env.scope c ∧ Gl Y g)
    (hst : ∀ cl' C, starEach [Expr.Name c p2] (compEnvC bscope cl' C X.env) = [(false, eval (.Name c p2) (compEnvC bscope cl' C X.env))])
    (hs : ∀ x, foldedSetIterable iter X.env x = pure x := by intro _; rfl) (hdb : (g == ("__debug__" : Str)) = false := by decide) (hd : (c == ("__debug__" : Str)) = false := by decide) (hcd : (c == ("__classdict__" : Str)) = false := by decide) :
    QF X W (.ListComp (.Name c pc) [⟨.Name c p, iter, [.Compare (.Call (.Name g p1) [.Name c p2] [] p3) [.NotEq] [.Constant (.str w) kk p4] p5], 0⟩] bscope pos) (lamF tab last w LT fbs X.env.cells fit) := by
  have hP := pe_lcI (X := X) (elt := .Name c pc) (tg := .Name c p) (iter := iter) (ifs := [.Compare (.Call (.Name g p1) [.Name c p2] [] p3) [.NotEq] [.Constant (.str w) kk p4] p5]) (scope := bscope) (own := [(c, ic)]) (pos := pos) (wi := iList X.K (tE X.K X.mg W fit)) (g := gName ic) (tt := ttV X k ic l last w) (te := tVar ic) hc hN (pi_list hi) ok
    (fun s H C cl' fp => pg_name hN hic (hloc s H C cl' fp).1 (hloc s H C cl' fp).2.1)
    (fun pins σ s H C cl' fp I hfp => pts_one ⟨fun pins' s' σ' H' Q' I' q' => by
      obtain ⟨f, L, t, h1, B, hl, h⟩ := q'
      exact (pt_cmpR (X := X.blk s H bscope (compEnvC bscope cl' C X.env) fp) (op_neD hr.units) (pe_errV (X := X) G hr I hfp (hloc s H C cl' fp).2.2.2 hic (hloc s H C cl' fp).2.2.1 (hst _ _) hdb hd hcd) (pe_str (j := kk)) (nomark _)).run pins' s' σ' H' Q' I' ⟨f, L, t, h1, B, hl, h⟩⟩)
    (fun s H C cl' fp => pe_var (X := X.blk s H bscope (compEnvC bscope cl' C X.env) fp) hic (hloc s H C cl' fp).2.2.1 hd hcd) hs
  refine ⟨fun pins s σ H Q I q => hP.run pins s σ H Q I (lam_lc_ok cl LB hw ?_ q)⟩
  rw [I.len]
  exact (List.getElem?_eq_some_iff.mp hic).1
end
end DV
set_option Elab.async false
set_option linter.all false
set_option maxRecDepth 100000
set_option maxHeartbeats 4000000
namespace DV
open PySem PySem.Spec PyProof.Rows L2 LamX LamY
/-! ### where the lambdas stand in a def's text -/
def stAt (b : List Stmt) (i : Nat) : Stmt := b.getD i (.Pass ⟨0, 0, 0, 0⟩)
def noX : Expr := .Constant .none 0 ⟨0, 0, 0, 0⟩
def asgV : Stmt → Expr
  | .Assign _ v _ => v
  | .Expr v _ => v
  | .Return (some v) _ => v
  | _ => noX
def ifT : Stmt → Expr
  | .If c _ _ _ => c
  | _ => noX
def forB : Stmt → List Stmt
  | .For _ _ b _ _ => b
  | _ => []
def cmpL : Expr → Expr
  | .Compare a _ _ _ => a
  | _ => noX
def lcIt : Expr → Expr
  | .ListComp _ (⟨_, i, _, _⟩ :: _) _ _ => i
  | _ => noX
def binR : Expr → Expr
  | .BinOp _ _ b _ => b
  | _ => noX
def lstI (e : Expr) (i : Nat) : Expr := match e with
  | .List es _ => es.getD i noX
  | _ => noX
def boolI (e : Expr) (i : Nat) : Expr := match e with
  | .BoolOp _ es _ => es.getD i noX
  | _ => noX
def lamSpec (q : Str) (df : Option (Str × Int)) : Expr → LamSpec
  | .Lambda params body scope _ => ⟨q, params, body, scope, df⟩
  | _ => ⟨q, default, noX, default, df⟩
theorem lamD_in {N : List Str} {sc0 bs scope : Scope} {df : Option (Str × Int)} (h : lamDB N (relS bs sc0) scope df = true) : LamD N (relS bs sc0) scope df := lamD_by h
/-! ### the def that tells errors -/
theorem errG_of {P : Program} {w : World} {K : PySem.W.Frag} {mg : Str → Option Value} {base : Heap} {x a last : Str} {st : Stmt} {f : Addr} {fd : FuncData} {Ng : List Str} {l : List (Value × Str)} {j : Nat} {p1 p2 p3 p4 p5 p8 : Pos} {h₀ : ExceptHandler} {hds : List ExceptHandler}
    (F : FunD K x x (defArgs st) (defBody st) (defScope st) [] [] f fd) (hm : mg x = some (.ref f)) (S : FnScope Ng [a] (defScope st)) (hN : Ng[0]? = some a) (hva : Vis (defScope st) a)
    (hbd : ∀ (kV doc pm : Value) (an : Option Addr) (cdv ct : Value) (us : List Value), us.length = [a].length → bindArgs (PySem.W.fnOf x x (defArgs st) (defBody st) (defScope st) .none kV doc pm an cdv ct) ⟨us, []⟩ = pure ([a].zip us))
    (hbody : defBody st = [.Try [.Expr (.Call (.Name a p1) [] [] p2) p3] (h₀ :: hds) [] [] p8, .Return (some (.Constant (.str last) j p4)) p5])
    (hh : ∀ (X : Cx), X.env.scope = defScope st → X.mg = mg → HdsR X (h₀ :: hds) l) (h0 : ∀ f : Addr, (L2.start Ng [V.ref f])[0]? = some (some (V.ref f)))
    (hsw : ∀ (cdv : Value) (A₁ : Around) (st' : List Env) (s : Shared) (H : Hp), swapsWith (.Call (.Name a p1) [] [] p2) none p3.line (cxOf C8.CX0 P w K mg base Ng x (defScope st) f cdv A₁ st' s H C8.E0).env = pure false)
    (hd : (a == ("__debug__" : Str)) = false := by decide) (hcd : (a == ("__classdict__" : Str)) = false := by decide) : ErrG P w K mg base x l last := by
  obtain ⟨oc, od, dV, kV, doc, pm, an, cdv, ct, osl, e, lk, hcg, _, _⟩ := F.ex
  have hb := F.bindsN (ps := [a]) hbd
  rw [e] at lk hb
  refine ⟨a, f, _, _, _, _, _, _, _, cdv, _, oc, _, od, osl, Ng, hm, F.kp, lk, hcg, hb, S, hN, hva, fun A₁ st' => ?_, hd, hcd⟩
  have g := err_gives (prog := P) (w := w) (K := K) (mg := mg) (base := base) (A₁ := A₁) (st := st') (Ng := Ng) (x := x) (sg := defScope st) (g := f) (cdg := cdv) (last := last) (j := j) (p4 := p4) (p5 := p5) (p8 := p8) (l := l)
    (fun s H => hh _ rfl rfl) h0 (fun s H => hsw cdv A₁ st' s H)
  rw [hbody]
  exact g
/-! ### the law's promise -/
def spL (K : PySem.W.Frag) (x : Str) (P : Addr) (n : Nat) (g : List (Str × Addr) → DS) : Sp := fun vs H Q _ => ∃ (F : Hp) (args : List PyData), vs.length = 1 ∧ Same F H ∧ DqAll K F vs args ∧ F P = none ∧ TabS H P (lamN x) ∧
  (∀ cells, endP (g cells (slots n (args.map .d)) [.gh (.tab x)]) = .ok (.bool true)) ∧ ∀ v H', v = .bl true → Q v H'
theorem fn_okL {Pr : Program} {w : World} {K : PySem.W.Frag} {mg : Str → Option Value} {base : Heap} {x p : Str} {st : Stmt} {f P : Addr} {fd : FuncData} {N : List Str} {k : Nat} {g : List (Str × Addr) → DS} (F : FunD K x x (defArgs st) (defBody st) (defScope st) [] [] f fd) (hf : f = He.ga K x)
    (S : FnScope N [p] (defScope st)) (hP : PySem.W.codeHdIn K (codeOf K x) P = true) (TB : LamX.TabB base mg (codeOf K x) P) (hq : x ++ ".<locals>." ++ "<lambda>" = lamN x)
    (hb : ∀ (cdv : Value) (A : Around) (outer : List Env) (s : Shared) (H : Hp) (E : XK), Room k (A.deeper (envOfC x (defScope st) s.heap.objs.size f cdv)) → TabC (cxOf (L2N.CX Pr w) Pr w K mg base N x (defScope st) f cdv A outer s H E) x →
      QB (cxOf (L2N.CX Pr w) Pr w K mg base N x (defScope st) f cdv A outer s H E) (WE0 E) (defBody st) (g (cxOf (L2N.CX Pr w) Pr w K mg base N x (defScope st) f cdv A outer s H E).env.cells)) :
    FnOk Pr w K mg base (L2N.CX Pr w) (k + 1) f fd [p] (spL K x P N.length g) := by
  obtain ⟨oc, od, dV, kV, doc, pm, an, cdv, ct, osl, rfl, lk, hcd, _, _⟩ := F.ex
  have ec : cdv = .ref (codeOf K x) := by
    have lk' := lk
    rw [hf] at lk'
    cases cdv with
    | ref c => unfold codeOf; rw [lk'] <;> rfl
    | _ => simp [PySem.W.codeIn] at hcd
  refine fn_of lk hcd S (fun vs H Q E h => ?_) (fun A outer s H vs Q E hr h => ⟨_, hb cdv A outer s H E hr ⟨P, hP, TB, ec, hq⟩, ?_⟩)
  · obtain ⟨_, _, h, _⟩ := h; exact h
  · obtain ⟨F0, args, hl, sub, da, fP, hT, h, hQ⟩ := h
    have rv : RVs K (fun _ => P) F0 1 vs (args.map .d) := RVs.of_all da
    have h := h (cxOf (L2N.CX Pr w) Pr w K mg base N x (defScope st) f cdv A outer s H E).env.cells
    refine ⟨fun _ => P, F0, [.gh (.tab x)], _, slots_len (by rw [rv.length]), slots_ok rv, ⟨sub, fun i j hi hj _ => by simp at hi hj; omega, fun k o e => ?_⟩, ?_⟩
    · cases k with
      | zero => simp at e; subst e; exact ⟨fP, hP, hT⟩
      | succ k => simp at e
    · unfold endP at h
      cases eg : g (cxOf (L2N.CX Pr w) Pr w K mg base N x (defScope st) f cdv A outer s H E).env.cells (slots N.length (args.map .d)) [.gh (.tab x)] with
      | rt d S' =>
        rw [eg] at h
        cases h
        intro ι' F' H' v st r dv
        cases dv
        exact hQ _ _ rfl
      | nx sl' S' => rw [eg] at h; cases h
      | er e sl' S' => rw [eg] at h; cases h
      | bk sl' S' => rw [eg] at h; cases h
      | ct sl' S' => rw [eg] at h; cases h
      | bad => rw [eg] at h; cases h
theorem law_spL {K : PySem.W.Frag} {H : Hp} {a P : Addr} {ns : List Int} {x : Str} {n : Nat} {g : List (Str × Addr) → DS} (hS : SqL K H a (ns.map V.int)) (hT : H P = some (.tbl #[])) (e : ∀ cells, endP (g cells (slots n ([scrD ns].map .d)) [.gh (.tab x)]) = .ok (.bool true)) :
    spL K x P n g [.ref a] H (fun v _ => v = .bl true) fun _ _ _ => False := by
  refine ⟨fun b => if b = P then none else H b, [scrD ns], rfl, fun b o h => ?_, .cons (.scr ?_ (DqAll.of_ints ns)) .nil, if_pos rfl, TabS.nil hT, e, fun v H' h => h⟩
  · have h' : (if b = P then none else H b) = some o := h
    by_cases q : b = P
    · rw [if_pos q] at h'; cases h'
    · rw [if_neg q] at h'; exact h'
  · rcases hS with (h | ⟨o, h⟩) | h
    · exact .inl (.inl ((if_neg fun z => by rw [z, hT] at h; cases h).trans h))
    · exact .inl (.inr ⟨o, (if_neg fun z => by rw [z, hT] at h; cases h).trans h⟩)
    · exact .inr h
/-! ### the head's facts -/
abbrev AlV : Type := AlU × Bool
def obsV (fa : List He.Fa) (fn : List He.DefD) (ts : List (Str × List Int)) (tf : List He.Defn) (g : Addr → Option Obj) (K : PySem.W.Frag) : AlV := (obsU fa fn ts K, He.tabsB g tf K)
def obsVG (n : Nat) (fa : List He.Fa) (fn : List He.DefD) (ts : List (Str × List Int)) (tf : List He.Defn) (g : Addr → Option Obj) : AlV := obsV fa fn ts tf g (He.frT g (He.asD g n))
structure SaysV (fa : List He.Fa) (fn : List He.DefD) (ts : List (Str × List Int)) (tf : List He.Defn) (h : Heap) (K : PySem.W.Frag) : Prop where
  u : SaysU fa fn ts K
  hd : ∀ p ∈ tf, PySem.W.codeHdIn K (He.cT K p).1 (He.cT K p).2 = true
  out : ∀ p ∈ tf, K.lookup (He.cT K p).2 = none
  empty : ∀ p ∈ tf, h.get? (He.cT K p).2 = some { cls := .none, data := .fields #[] }
theorem saysV_of {n : Nat} {fa : List He.Fa} {fn : List He.DefD} {ts : List (Str × List Int)} {tf : List He.Defn} {h : Heap} (e : obsVG n fa fn ts tf h.get? = ((He.valD fn, true), true)) : SaysV fa fn ts tf h (He.frT h.get? (He.asD h.get? n)) := by
  have e1 : obsU fa fn ts (He.frT h.get? (He.asD h.get? n)) = (He.valD fn, true) := congrArg (fun z : AlV => z.1) e
  have e2 : He.tabsB h.get? tf (He.frT h.get? (He.asD h.get? n)) = true := congrArg (fun z : AlV => z.2) e
  have key : ∀ p ∈ tf, PySem.W.codeHdIn (He.frT h.get? (He.asD h.get? n)) (He.cT (He.frT h.get? (He.asD h.get? n)) p).1 (He.cT (He.frT h.get? (He.asD h.get? n)) p).2 = true ∧ ∃ o, h.get? (He.cT (He.frT h.get? (He.asD h.get? n)) p).2 = some o ∧ He.emptyTab o = true := fun p hp => by
    obtain ⟨h3, h4⟩ := Bool.and_eq_true_iff.mp (List.all_eq_true.mp e2 p hp)
    refine ⟨h3, ?_⟩
    split at h4
    · rename_i o q
      exact ⟨o, q, h4⟩
    · cases h4
  exact ⟨e1, fun p hp => (key p hp).1, fun p hp => let ⟨_, o, q, z⟩ := key p hp; He.frT_none q z, fun p hp => by
    obtain ⟨_, o, q, z⟩ := key p hp
    rw [q, He.emptyTab_eq z]⟩
def hookV (n : Nat) (fa : List He.Fa) (fn : List He.DefD) (ts : List (Str × List Int)) (tf : List He.Defn) : PySem.W.Hook where
  α := AlV
  obs := fun s => obsVG n fa fn ts tf s.heap.get?
  val := fun _ => ((He.valD fn, true), true)
  says := fun _ h => ∃ K : PySem.W.Frag, K.In h ∧ SaysV fa fn ts tf h K
  of := fun _ _ e => ⟨_, He.frT_in, saysV_of e⟩
  keeps := fun _ _ _ ⟨K, hK, c⟩ k => ⟨K, PySem.W.Frag.In.keeps hK k, ⟨c.u, c.hd, c.out, fun p hp => k _ _ (c.empty p hp)⟩⟩
theorem obsVG_eq {n : Nat} {fa : List He.Fa} {fn : List He.DefD} {ts : List (Str × List Int)} {tf : List He.Defn} {g : Addr → Option Obj} {s : Shared} (h : ∀ a, g a = s.heap.get? a) : obsVG n fa fn ts tf g = (hookV n fa fn ts tf).obs s := by
  have e : g = s.heap.get? := funext h
  rw [e] <;> rfl
/-- the error classes' order, of facts of the head -/
theorem clsOk_of {K : PySem.W.Frag} {mg : Str → Option Value} {tab : Str → Option Str} {hs : List (Str × Str)} (fs : List (Str × Str × Bool))
    (h : ∀ x r, tab x = some r → ∃ pre suf y, hs = pre ++ (y, r) :: suf ∧ (∀ p ∈ pre, (x, p.1, false) ∈ fs) ∧ (x, y, true) ∈ fs) (hg : ∀ x r, tab x = some r → mg x = some (.ref (He.ga K x)))
    (hf : ∀ x y b, (x, y, b) ∈ fs → PySem.W.exmOne K (.ref (He.ga K x)) (.ref (He.ga K y)) = some b) : ClsOk K mg (hs.map fun p => (.ref (He.ga K p.1), p.2)) tab := by
  intro x r C ht hC Q d H hQ
  obtain ⟨pre, suf, y, e, h1, h2⟩ := h x r ht
  rw [hg x r ht] at hC
  cases hC
  subst e
  clear h
  induction pre with
  | nil => exact ⟨true, hf _ _ _ h2, fun _ => hQ, fun z => nomatch z⟩
  | cons p pre ih =>
    refine ⟨false, hf _ _ _ (h1 p List.mem_cons_self), (fun z => nomatch z), fun _ => ih fun q hq => h1 q (List.mem_cons_of_mem _ hq)⟩
end DV
set_option Elab.async false
set_option linter.all false
set_option maxRecDepth 100000
set_option maxHeartbeats 4000000
namespace DV
open PySem PySem.Spec PyProof.Rows L2
section
variable {X : Cx} {W : WX} {e : Expr} {fa fb : DE} {pos : Pos}
theorem q_dct0 : QE X W (.Dict [] [] pos) (cst (.dict [])) := by
  refine PE.imp pe_dnewK fun σ H Q ⟨ι, F, S, sl, hz, hs, rel, q⟩ => fun p hp => ?_
  have g := Grow.new (o := .dK []) rel.sub hp
  exact q ι _ _ g.stp (rel.grow g) _ (Dq.dk (ks := []) (vs := []) upd_same rfl rfl .nil)
def tupRg2E (fa fb : DE) : DE := fun sl S => (fa sl S).bind fun x S1 => (fb sl S1).bind fun y S2 => match x, y with
  | .d (.int i), .d (.int j) => if decide (-(2 ^ 62) ≤ i) && decide (i < 2 ^ 62) && decide (-(2 ^ 62) ≤ j) && decide (j < 2 ^ 62) && decide ((j - i).toNat ≤ 10000000) then R.ok (.d (.tuple (rangeL i (j - i).toNat))) S2 else .bad
  | _, _ => .bad
theorem q_tupRg2 (h : PE X e (tTupRg (tRg2 (tE X.K X.mg W fa) (tE X.K X.mg W fb)))) : QE X W e (tupRg2E fa fb) := by
  refine PE.imp h fun σ H Q ⟨ι, F, S, sl, hz, hs, rel, q⟩ => ?_
  refine tE.two hz hs rel q fun x y S2 ι2 F2 H2 u v s2 r2 ru rv h2 => ?_
  split at h2
  · rename_i i j
    cases ru
    cases rv
    split at h2
    · rename_i c
      simp only [Bool.and_eq_true, decide_eq_true_eq] at c
      refine ⟨i, j, rfl, rfl, ⟨c.1.1.1.1, c.1.1.1.2, c.1.1.2, c.1.2, Nat.le_trans c.2 (by decide)⟩, fun p hp => ?_⟩
      have dd := rgV_list (K := X.K) (F := F2) i j
      have g := Grow.new (o := .tup (rgV i j)) r2.sub hp
      exact h2 ι2 _ _ g.stp (r2.grow g) _ (Dq.tup (SqT.of upd_same) (DqAll.mono g.ff _ _ dd) fun h => absurd h (by rw [sumlike_range]; exact Bool.false_ne_true))
    · exact h2.elim
  · exact h2.elim
end
end DV
namespace DV
open PySem PySem.Spec PyProof.Rows L2 LamX LamY
section
variable {X : Cx} {W : WX} {x g : Str} {kt k : Nat} {tab : Str → Option Str} {last : Str} {fb : DE} {P : Addr} {l : List (Value × Str)} {params : Arguments} {body : Expr} {scope : Scope} {p lpos pos : Pos} {df : Option (Str × Int)}
theorem TabC.blk (h : TabC X x) {s : Shared} {H : Hp} {sc : Scope} {C : Addr} {cl : List (Str × Addr)} {fp : List Addr} : TabC (X.blk s H sc (compEnvC sc cl C X.env) fp) x := ⟨h.ex⟩
theorem lamB_of {L : LamSpec} (hL : L = ⟨X.env.qual ++ "<lambda>", params, body, scope, df⟩) (d : LamD X.N X.env.scope scope df) (lp : LamP params body scope X.env df)
    (hb : ∀ (A : Around) (outer : List Env) (s : Shared) (H : Hp) (E : XK) (f c' : Addr), Room k (A.deeper (lamEnv X scope s.heap.objs.size f c')) → QE (lamCx X A outer s H E scope f c') (WE0 E) body fb) : LamB X k L fun E => tE X.K X.mg (WE0 E) fb := by
  subst hL
  exact ⟨rfl, d, lp, hb⟩
theorem q_er (G : ErrG X.prog X.w X.K X.mg X.base g l last) (cl : ClsOk X.K X.mg l tab) (TC : TabC X x) (hr : Room (k + 2) X.A) (d : LamD X.N X.env.scope scope df) (lp : LamP params body scope X.env df)
    (hb : ∀ (A : Around) (outer : List Env) (s : Shared) (H : Hp) (E : XK) (f c' : Addr), Room k (A.deeper (lamEnv X scope s.heap.objs.size f c')) → QE (lamCx X A outer s H E scope f c') (WE0 E) body fb) (hg : Gl X g := by rfl) (hdb : (g == ("__debug__" : Str)) = false := by decide) :
    QE X W (.Call (.Name g p) [.Lambda params body scope lpos] [] pos) (errE x kt tab last fb) := q_err G cl TC hr (lamB_of rfl d lp hb) hg hdb
end
end DV
set_option Elab.async false
set_option linter.all false
set_option maxRecDepth 100000
set_option maxHeartbeats 4000000
namespace DV
open PySem PySem.Spec PyProof.Rows L2
abbrev KVs := List (PyData × PyData)
def atD (kvs : KVs) (k : NestedKey) : Option PyData := (kvs.find? fun p => decide (keyOf p.1 = some k)).map (·.2)
def putD (kvs : KVs) (key : PyData) (k : NestedKey) (v : PyData) : KVs :=
  if (atD kvs k).isSome then kvs.map (fun p => if keyOf p.1 = some k then (p.1, v) else p) else kvs ++ [(key, v)]
def popD (kvs : KVs) (k : NestedKey) : KVs := kvs.filter fun p => decide (keyOf p.1 ≠ some k)
/-- a key that a dict may have -/
def keyD8 (d : PyData) : Option NestedKey := match d with
  | .tuple _ => (match keyOf d with
    | some k => if k.depth ≤ 8 then some k else none
    | none => none)
  | _ => none
theorem keyD8_of {d : PyData} {k : NestedKey} (h : keyD8 d = some k) : (∃ ds, d = .tuple ds) ∧ keyOf d = some k ∧ k.depth ≤ 8 := by
  unfold keyD8 at h
  split at h
  · split at h
    · rename_i k' e
      split at h
      · cases h; exact ⟨⟨_, rfl⟩, e, by assumption⟩
      · cases h
    · cases h
  · cases h
mutual
theorem hashN_eq (w : World) : ∀ {d : PyData} {k : NestedKey}, keyOf d = some k → k.hash w = hashN k
  | .int i, k, h => by simp [keyOf] at h; subst h; rfl
  | .tuple ds, k, h => by
    simp only [keyOf, Option.map_eq_some_iff] at h
    obtain ⟨ks, e, rfl⟩ := h
    simp only [NestedKey.hash, hashN, hashNs_eq w e]
  | .none, k, h => by simp [keyOf] at h
  | .bool _, k, h => by simp [keyOf] at h
  | .str _, k, h => by simp [keyOf] at h
  | .list _, k, h => by simp [keyOf] at h
  | .dict _, k, h => by simp [keyOf] at h
theorem hashNs_eq (w : World) : ∀ {ds : List PyData} {ks : List NestedKey}, keysOf ds = some ks → NestedKey.hashes w ks = hashNs ks
  | [], ks, h => by simp [keysOf] at h; subst h; rfl
  | d :: ds, ks, h => by
    unfold keysOf at h
    split at h
    · rename_i k ks' e1 e2
      cases h
      simp only [NestedKey.hashes, hashNs, hashN_eq w e1, hashNs_eq w e2]
    · cases h
end
section
variable {K : PySem.W.Frag} {F H : Hp}
/-- entries with what they tell, one by one -/
inductive EntR (K : PySem.W.Frag) (F : Hp) : List Ent → List V → KVs → Prop
  | nil : EntR K F [] [] []
  | cons {k : NestedKey} {a : Addr} {u : Value} {v : V} {p : PyData × PyData} {xs : List Ent} {vs : List V} {kvs : KVs} : keyOf p.1 = some k → k.depth ≤ 8 → Dq K F (.ref a) p.1 → RelV v u → Dq K F v p.2 → EntR K F xs vs kvs → EntR K F ((k, a, u) :: xs) (v :: vs) (p :: kvs)
theorem EntR.of : ∀ {xs : List Ent} {vs : List V} {kvs : KVs}, kvs.map (fun p => keyOf p.1) = xs.map (fun x => some x.1) → (∀ x ∈ xs, x.1.depth ≤ 8) → Vals vs (xs.map fun x => x.2.2) → DqAll K F (xs.map fun x => .ref x.2.1) (kvs.map (·.1)) → DqAll K F vs (kvs.map (·.2)) → EntR K F xs vs kvs
  | [], vs, kvs, h1, h2, h3, h4, h5 => by
    cases h3
    cases kvs with
    | nil => exact .nil
    | cons p r => simp at h1
  | (k, a, u) :: xs, vs, kvs, h1, h2, h3, h4, h5 => by
    cases h3 with
    | cons r t =>
      cases kvs with
      | nil => simp at h1
      | cons p kvs =>
        simp only [List.map_cons, List.cons.injEq] at h1
        cases h4 with
        | cons a1 a2 =>
          cases h5 with
          | cons b1 b2 => exact .cons h1.1 (h2 _ List.mem_cons_self) a1 r b1 (EntR.of h1.2 (fun x hx => h2 x (List.mem_cons_of_mem _ hx)) t a2 b2)
theorem EntR.key {xs : List Ent} {vs : List V} {kvs : KVs} (h : EntR K F xs vs kvs) : kvs.map (fun p => keyOf p.1) = xs.map (fun x => some x.1) := by
  induction h with
  | nil => rfl
  | cons a b c d e f ih => simp [a, ih]
theorem EntR.deep {xs : List Ent} {vs : List V} {kvs : KVs} (h : EntR K F xs vs kvs) : ∀ x ∈ xs, x.1.depth ≤ 8 := by
  induction h with
  | nil => intro x hx; cases hx
  | cons a b c d e f ih =>
    intro x hx
    rcases List.mem_cons.mp hx with z | z
    · rw [z]; exact b
    · exact ih x z
theorem EntR.vals {xs : List Ent} {vs : List V} {kvs : KVs} (h : EntR K F xs vs kvs) : Vals vs (xs.map fun x => x.2.2) := by
  induction h with
  | nil => exact .nil
  | cons a b c d e f ih => exact .cons d ih
theorem EntR.kd {xs : List Ent} {vs : List V} {kvs : KVs} (h : EntR K F xs vs kvs) : DqAll K F (xs.map fun x => .ref x.2.1) (kvs.map (·.1)) := by
  induction h with
  | nil => exact .nil
  | cons a b c d e f ih => exact .cons c ih
theorem EntR.vd {xs : List Ent} {vs : List V} {kvs : KVs} (h : EntR K F xs vs kvs) : DqAll K F vs (kvs.map (·.2)) := by
  induction h with
  | nil => exact .nil
  | cons a b c d e f ih => exact .cons e ih
theorem EntR.length {xs : List Ent} {vs : List V} {kvs : KVs} (h : EntR K F xs vs kvs) : xs.length = kvs.length := by
  have := congrArg List.length h.key
  simpa using this.symm
theorem EntR.at {xs : List Ent} {vs : List V} {kvs : KVs} (h : EntR K F xs vs kvs) (k : NestedKey) : (atKey xs k = none ∧ atD kvs k = none) ∨ ∃ a u v d, atKey xs k = some (a, u) ∧ atD kvs k = some d ∧ RelV v u ∧ Dq K F v d := by
  induction h with
  | nil => exact .inl ⟨rfl, rfl⟩
  | @cons k' a u v p xs vs kvs h1 h2 h3 h4 h5 h6 ih =>
    by_cases e : k' = k
    · subst e
      exact .inr ⟨a, u, v, p.2, by simp [atKey], by simp [atD, h1], h4, h5⟩
    · have e1 : atKey ((k', a, u) :: xs) k = atKey xs k := by simp [atKey, e]
      have e2 : atD (p :: kvs) k = atD kvs k := by simp [atD, h1, e]
      rw [e1, e2]
      exact ih
theorem EntR.append {xs ys : List Ent} {vs us : List V} {kvs lvs : KVs} (h : EntR K F xs vs kvs) (h' : EntR K F ys us lvs) : EntR K F (xs ++ ys) (vs ++ us) (kvs ++ lvs) := by
  induction h with
  | nil => exact h'
  | cons a b c d e f ih => exact .cons a b c d e ih
theorem EntR.mapPut {xs : List Ent} {vs : List V} {kvs : KVs} (h : EntR K F xs vs kvs) (k : NestedKey) {u : Value} {v : V} {d : PyData} (ru : RelV v u) (rd : Dq K F v d) :
    ∃ vs', EntR K F (xs.map (putAt k u)) vs' (kvs.map fun p => if keyOf p.1 = some k then (p.1, d) else p) := by
  induction h with
  | nil => exact ⟨_, .nil⟩
  | @cons k' a u' v' p xs vs kvs h1 h2 h3 h4 h5 h6 ih =>
    obtain ⟨vs', ih⟩ := ih
    by_cases e : k' = k
    · subst e
      exact ⟨v :: vs', by simpa [putAt, h1] using EntR.cons (p := (p.1, d)) h1 h2 h3 ru rd ih⟩
    · exact ⟨v' :: vs', by simpa [putAt, h1, e] using EntR.cons h1 h2 h3 h4 h5 ih⟩
theorem EntR.put {xs : List Ent} {vs : List V} {kvs : KVs} (h : EntR K F xs vs kvs) {key : PyData} {k : NestedKey} {a : Addr} {u : Value} {v : V} {d : PyData} (hk : keyOf key = some k) (h8 : k.depth ≤ 8) (ka : Dq K F (.ref a) key) (ru : RelV v u) (rd : Dq K F v d) :
    ∃ vs', EntR K F (storedH xs k a u) vs' (putD kvs key k d) := by
  unfold storedH putD
  rcases h.at k with ⟨e1, e2⟩ | ⟨a', u', v', d', e1, e2, _⟩
  · rw [e1, e2]
    exact ⟨_, h.append (.cons (p := (key, d)) hk h8 ka ru rd .nil)⟩
  · rw [e1, e2]
    exact h.mapPut k ru rd
theorem EntR.pop {xs : List Ent} {vs : List V} {kvs : KVs} (h : EntR K F xs vs kvs) (k : NestedKey) : ∃ vs', EntR K F (withoutH xs k) vs' (popD kvs k) := by
  unfold withoutH popD
  induction h with
  | nil => exact ⟨_, .nil⟩
  | @cons k' a u' v' p xs vs kvs h1 h2 h3 h4 h5 h6 ih =>
    obtain ⟨vs', ih⟩ := ih
    by_cases e : k' = k
    · subst e
      exact ⟨vs', by simpa [h1] using ih⟩
    · exact ⟨v' :: vs', by simpa [h1, e] using EntR.cons h1 h2 h3 h4 h5 ih⟩
theorem DctR.ents {a : Addr} {kvs : KVs} {es : Array DictEntry} {ep : Nat} {xs : List Ent} {vs : List V} (h : DctR K F H a kvs es ep xs vs) : EntR K F xs vs kvs := EntR.of h.key h.deep h.vals h.kd h.vd
end
section
variable {X : Cx} {pins : List (Addr × Obj)} {σ : L2.St} {F H : Hp} {s : Shared}
mutual
theorem nest_of (I : Inv X pins σ H s) (sub : Same F H) : ∀ {d : PyData} {v : V} {u : Value} {k : NestedKey}, Dq X.K F v d → RelV v u → keyOf d = some k → NestedIs s.heap k u
  | .int i, v, u, k, h, r, e => by
    simp [keyOf] at e
    subst e
    cases h
    obtain ⟨t, rfl⟩ := r
    exact .int _ _
  | .tuple ds, v, u, k, h, r, e => by
    simp only [keyOf, Option.map_eq_some_iff] at e
    obtain ⟨ks, e, rfl⟩ := e
    cases h with
    | tup q dd _ =>
      obtain rfl : u = Value.ref _ := r
      obtain ⟨its, rv, ⟨o, ho, hc, n, hd⟩, _⟩ := I.tuple (SqT.mono sub q)
      exact .tup ho hc hd (by simpa using nests_of I sub dd rv e)
  | .none, _, _, _, _, _, e => by simp [keyOf] at e
  | .bool _, _, _, _, _, _, e => by simp [keyOf] at e
  | .str _, _, _, _, _, _, e => by simp [keyOf] at e
  | .list _, _, _, _, _, _, e => by simp [keyOf] at e
  | .dict _, _, _, _, _, _, e => by simp [keyOf] at e
theorem nests_of (I : Inv X pins σ H s) (sub : Same F H) : ∀ {ds : List PyData} {vs : List V} {us : List Value} {ks : List NestedKey}, DqAll X.K F vs ds → Vals vs us → keysOf ds = some ks → NestedAll s.heap ks us
  | [], vs, us, ks, h, r, e => by
    simp [keysOf] at e
    subst e
    cases h
    cases r
    exact .nil
  | d :: ds, vs, us, ks, h, r, e => by
    unfold keysOf at e
    split at e
    · rename_i k ks' e1 e2
      cases e
      cases h with
      | cons a b =>
        cases r with
        | cons r1 r2 => exact .cons (nest_of I sub a r1 e1) (nests_of I sub b r2 e2)
    · cases e
end
/-- the heap's dict -/
theorem dctH {a : Addr} {kvs : KVs} {es : Array DictEntry} {ep : Nat} {xs : List Ent} {vs : List V} (I : Inv X pins σ H s) (sub : Same F H) (h : DctR X.K F H a kvs es ep xs vs) : s.heap.DictOfH (nestedKind X.prog X.w) a xs ∧ s.heap.DictRaw a es ep := by
  obtain ⟨hr, _, _⟩ := I.hok a _ h.at_
  have hr : s.heap.DictRaw a es ep := hr
  obtain ⟨o, e1, e2, e3⟩ := hr
  have is : ∀ {xs : List Ent} {vs : List V} {kvs : KVs}, EntR X.K F xs vs kvs → (∀ x ∈ xs, (nestedKind X.prog X.w).is s.heap x.1 x.2.1) ∧ xs.map entN = xs.map (entryOfKey (nestedKind X.prog X.w)) := fun {xs vs kvs} r => by
    induction r with
    | nil => exact ⟨(fun x hx => absurd hx (by simp)), rfl⟩
    | @cons k a u v p xs vs kvs h1 h2 h3 h4 h5 h6 ih =>
      refine ⟨fun x hx => ?_, ?_⟩
      · rcases List.mem_cons.mp hx with z | z
        · rw [z]; exact ⟨nest_of I sub h3 rfl h1, h2⟩
        · exact ih.1 x z
      · have : entN (k, a, u) = entryOfKey (nestedKind X.prog X.w) (k, a, u) := by
          show DictEntry.mk (hashN k) (.ref a) u = ⟨k.hash X.w, .ref a, u⟩
          rw [hashN_eq X.w h1]
        simp only [List.map_cons, this, ih.2]
  have q := is h.ents
  exact ⟨⟨o, es, ep, e1, e2, e3, h.ent.trans q.2, q.1, h.nd⟩, ⟨o, e1, e2, e3⟩⟩
end
end DV
set_option Elab.async false
set_option linter.all false
set_option maxRecDepth 100000
set_option maxHeartbeats 4000000
namespace DV
open PySem PySem.Spec PyProof.Rows L2
abbrev DN (K : PySem.W.Frag) (F H : Hp) (a : Addr) (kvs : KVs) : Prop := ∃ es ep xs vs, DctR K F H a kvs es ep xs vs
theorem room9 {k : Nat} {A : Around} (hr : Room k A) : A.in1.units + 8 < cLine := by
  have := hr.un
  show A.units + 1 + 8 < cLine
  omega
/-- the dict that an operand is -/
def dctAt (S : Sto) : Val → Option (Nat × KVs)
  | .loc k => match S[k]? with
    | some (.gh (.dct kvs)) => some (k, kvs)
    | _ => none
  | _ => none
theorem dctAt_eq {S : Sto} {x : Val} {k : Nat} {kvs : KVs} (h : dctAt S x = some (k, kvs)) : x = .loc k ∧ S[k]? = some (.gh (.dct kvs)) := by
  unfold dctAt at h
  split at h
  · split at h
    · cases h; exact ⟨rfl, by assumption⟩
    · cases h
  · cases h
section
variable {K : PySem.W.Frag} {ι : Nat → Addr} {F H : Hp} {S : Sto}
/-- a dict of the store is changed -/
theorem dct_set {k : Nat} {kvs kvs2 : KVs} {es es2 : Array DictEntry} {ep ep2 : Nat} {xs xs2 : List Ent} {vs vs2 : List V} (rel : Rel K ι F H S) (e : S[k]? = some (.gh (.dct kvs))) (h0 : DctR K F H (ι k) kvs es ep xs vs) (hn : DctR K F (upd H (ι k) (DctO (ι k) es2 ep2)) (ι k) kvs2 es2 ep2 xs2 vs2) :
    Stp ι F H S.length ι F (upd H (ι k) (DctO (ι k) es2 ep2)) (S.set k (.gh (.dct kvs2))).length ∧ Rel K ι F (upd H (ι k) (DctO (ι k) es2 ep2)) (S.set k (.gh (.dct kvs2))) := by
  have hk : k < S.length := (List.getElem?_eq_some_iff.mp e).1
  obtain ⟨f0, _⟩ := rel.obj k _ e
  rw [List.length_set]
  refine ⟨⟨Nat.le_refl _, fun _ _ => rfl, Same.refl _, fun a o h hn => ?_, fun a o h => ?_, fun _ h1 h2 => absurd (Nat.lt_of_le_of_lt h1 h2) (Nat.lt_irrefl _), fun a o h => .inl h⟩, fun a o h => ?_, fun i j hi hj => rel.inj i j (by simpa using hi) (by simpa using hj), fun j o ej => ?_⟩
  · rw [upd_ne (Ne.symm (hn k hk))]; exact h
  · by_cases q : a = ι k
    · exact ⟨_, by rw [q]; exact upd_same⟩
    · exact ⟨o, by rw [upd_ne q]; exact h⟩
  · by_cases q : a = ι k
    · subst q; rw [f0] at h; cases h
    · rw [upd_ne q]; exact rel.sub _ _ h
  · rw [List.length_set]
    by_cases q : j = k
    · subst q
      rw [List.getElem?_set_self hk] at ej
      cases ej
      exact ⟨f0, _, _, _, _, hn⟩
    · rw [List.getElem?_set_ne (Ne.symm q)] at ej
      have hj : j < S.length := (List.getElem?_eq_some_iff.mp ej).1
      have := rel.obj j o ej
      cases o with
      | frz x => exact this
      | lst zs =>
        obtain ⟨g0, ws, g1, g2⟩ := this
        exact ⟨g0, ws, by rw [upd_ne fun e => q (rel.inj j k hj hk e)]; exact g1, g2⟩
      | gh x =>
        obtain ⟨g0, g2⟩ := this
        exact ⟨g0, g2.butD (fun e => q (rel.inj j k hj hk e)) h0.at_ fun b o hb e => by rw [upd_ne hb]; exact e⟩
/-- a new dict gets a place -/
theorem dct_new {p : Addr} {kvs : KVs} {es : Array DictEntry} {ep : Nat} {xs : List Ent} {vs : List V} (rel : Rel K ι F H S) (hp : H p = none) (hn : DctR K F (upd H p (DctO p es ep)) p kvs es ep xs vs) :
    ∃ ι', Stp ι F H S.length ι' F (upd H p (DctO p es ep)) (S ++ [Ob.gh (.dct kvs)]).length ∧ Rel K ι' F (upd H p (DctO p es ep)) (S ++ [.gh (.dct kvs)]) ∧ ι' S.length = p := by
  have fp : F p = none := rel.sub.free hp
  have g : Grow F H F (upd H p (DctO p es ep)) := ⟨Same.refl _, fun a o h => by rw [upd_ne (ne_of_none h hp)]; exact h, fun a o h => by rw [upd_ne (ne_of_none (rel.sub _ _ h) hp)]; exact rel.sub _ _ h, fun a o h => .inl h⟩
  have rel2 := rel.grow g
  refine place_new rel2 g.stp hp fp ⟨_, _, _, _, hn⟩ fun k hk e => ?_
  obtain ⟨o, eo⟩ : ∃ o, S[k]? = some o := ⟨_, List.getElem?_eq_getElem hk⟩
  have := rel.obj k o eo
  cases o with
  | lst ys => obtain ⟨_, vs, g1, _⟩ := this; rw [e, hp] at g1; cases g1
  | frz x => obtain ⟨vs, g1, _⟩ := this; rw [e, fp] at g1; cases g1
  | gh x => obtain ⟨_, g0⟩ := this; obtain ⟨ps, g1, _⟩ := g0.at_; rw [e, hp] at g1; cases g1
end
section
variable {X : Cx} {W : WX} {pins : List (Addr × Obj)} {σ : L2.St} {F H : Hp} {s : Shared}
/-- what the heap says of a dict's object makes a record of it -/
theorem dct_rec {F : Hp} {h' : Heap} {a : Addr} {xs : List Ent} {vs : List V} {kvs : KVs} (nm : (a == sysModules) = false) (hd : h'.DictOfH (nestedKind X.prog X.w) a xs) (er : EntR X.K F xs vs kvs) :
    ∃ es ep, (∀ H', ObjOk X.prog X.w H' h' a (DctO a es ep)) ∧ ∀ H, H a = some (DctO a es ep) → DctR X.K F H a kvs es ep xs vs := by
  obtain ⟨o, es, ep, e1, e2, e3, e4, e5, e6⟩ := hd
  have eq : ∀ {xs : List Ent} {vs : List V} {kvs : KVs}, EntR X.K F xs vs kvs → xs.map (entryOfKey (nestedKind X.prog X.w)) = xs.map entN := fun {xs vs kvs} r => by
    induction r with
    | nil => rfl
    | @cons k a u v p xs vs kvs h1 h2 h3 h4 h5 h6 ih =>
      have : entryOfKey (nestedKind X.prog X.w) (k, a, u) = entN (k, a, u) := by
        show DictEntry.mk (k.hash X.w) (.ref a) u = ⟨hashN k, .ref a, u⟩
        rw [hashN_eq X.w h1]
      simp only [List.map_cons, this, ih]
  refine ⟨es, ep, fun H' => ⟨⟨o, e1, e2, e3⟩, ⟨o, e1⟩, fun h1 h2 ⟨o', z1, z2⟩ st => ⟨o', st _ z1, z2⟩⟩, fun H hH => ?_⟩
  exact ⟨nm, hH, e4.trans (eq er), er.key, er.deep, er.vals, e6, er.kd, er.vd⟩
theorem key_is {a : Addr} {key : PyData} {k : NestedKey} (I : Inv X pins σ H s) (sub : Same F H) (kd : Dq X.K F (.ref a) key) (e : keyD8 key = some k) : (nestedKind X.prog X.w).is s.heap k a := by
  obtain ⟨_, e1, e2⟩ := keyD8_of e
  exact ⟨nest_of I sub kd rfl e1, e2⟩
theorem key_ref {v : V} {key : PyData} {k : NestedKey} {K : PySem.W.Frag} (kd : Dq K F v key) (e : keyD8 key = some k) : ∃ a, v = .ref a := by
  obtain ⟨⟨ds, rfl⟩, _⟩ := keyD8_of e
  cases kd with
  | tup q d _ => exact ⟨_, rfl⟩
/-! ### {} -/
def newN : DE := fun sl S => .ok (.loc S.length) (S ++ [.gh (.dct [])])
theorem pe_newN {pos : Pos} : PE X (.Dict [] [] pos) (fun _ H Q => ∀ p, H p = none → (p == sysModules) = false → Q (.ref p) (upd H p (DctO p #[] 0))) := ⟨fun pins s σ H Q I h =>
  wpAny_Dict_empty ⟨.ref s.heap.objs.size, _, I.laid (a := s.heap.objs.size) (o := DctO s.heap.objs.size #[] 0) (t' := s.toks) (fun _ _ q => Heap.get?_push_of_some _ q) (Nat.le_refl _)
    ⟨⟨_, Heap.get?_push_size _ rfl, ⟨rfl, rfl, rfl⟩, rfl⟩, ⟨_, Heap.get?_push_size _ rfl⟩, fun h1 h2 ⟨o', z1, z2⟩ st => ⟨o', st _ z1, z2⟩⟩, rfl, h _ (I.hok.fresh (Nat.le_refl _)) (beq_eq_false_iff_ne.mpr (Ne.symm (Nat.ne_of_lt I.big)))⟩⟩
theorem q_newN {pos : Pos} : QE X W (.Dict [] [] pos) newN := by
  refine PE.imp pe_newN fun σ H Q ⟨ι, F, S, sl, hz, hs, rel, q⟩ p hp nm => ?_
  obtain ⟨ι', st, r', e⟩ := dct_new (kvs := []) (es := #[]) (ep := 0) (xs := []) (vs := []) rel hp ⟨nm, upd_same, rfl, rfl, fun x hx => absurd hx (by simp), .nil, List.nodup_nil, .nil, .nil⟩
  exact q ι' F _ st r' _ ⟨by simp, by rw [e]⟩
/-! ### d[k] -/
variable {o i e c : Expr} {pos apos cpos : Pos} {to ti te : TE} {fo fi fx f : DE}
theorem pe_getN (hu : X.A.in1.units + 8 < cLine) (ho : PE X o to) (hi : PE X i ti) (hs : NoSl i) : PE X (.Subscript o i pos) (fun σ H Q => to σ H fun x H1 => ti σ H1 fun y H2 => ∃ a F kvs key k d, x = .ref a ∧ Same F H2 ∧ DN X.K F H2 a kvs ∧ Dq X.K F y key ∧ keyD8 key = some k ∧ atD kvs k = some d ∧ ∀ v, Dq X.K F v d → Q v H2) := by
  refine ⟨fun pins s σ H Q I h => ?_⟩
  refine subD_of PySem.F.slot_dict_getitem.lookup hs (thn (ho.run pins s σ H _ I h) fun u s1 ⟨x, H1, I1, rx, q1⟩ => thn (hi.run pins s1 σ H1 _ I1 q1) fun iv s2 ⟨y, H2, I2, ry, a, F, kvs, key, k, d, ex, sub, ⟨es, ep, xs, vs, dr⟩, kd, ek, ed, q2⟩ => ?_)
  subst ex
  obtain rfl : u = Value.ref a := rx
  obtain ⟨b, rfl⟩ := key_ref kd ek
  obtain rfl : iv = Value.ref b := ry
  obtain ⟨dH, _⟩ := dctH I2 sub dr
  refine ⟨dH.typeIs, ?_⟩
  rcases dr.ents.at k with ⟨_, z⟩ | ⟨a', u', v', d', e1, e2, rv, dv⟩
  · rw [ed] at z; cases z
  · rw [ed] at e2; cases e2
    exact wpAny_getItem_heap hu (key_is I2 sub kd ek) dH e1 ⟨v', H2, I2.tok _, rv, q2 v' dv⟩
def ixN (fo fi : DE) : DE := fun sl S => (fo sl S).bind fun x S1 => (fi sl S1).bind fun y S2 => match dctAt S2 x, y with
  | some (_, kvs), .d key => (match keyD8 key with
    | some k => okD (atD kvs k) S2
    | none => .bad)
  | _, _ => .bad
theorem q_ixN {j : Nat} (hr : Room j X.A) (ho : QE X W o fo) (hi : QE X W i fi) (hs : NoSl i) : QE X W (.Subscript o i pos) (ixN fo fi) := by
  refine PE.imp (pe_getN (room9 hr) ho hi hs) fun σ H Q ⟨ι, F, S, sl, hz, hs, rel, q⟩ => ?_
  refine tE.two hz hs rel q fun x y S2 ι2 F2 H2 u v s2 r2 ru rv h2 => ?_
  split at h2
  · rename_i kk kvs key e1
    obtain ⟨rfl, e2⟩ := dctAt_eq e1
    obtain ⟨hk, rfl⟩ := ru
    obtain ⟨_, dr⟩ := r2.obj _ _ e2
    split at h2
    · rename_i k ek
      obtain ⟨z, ez, k2⟩ := okD_ok h2 r2
      exact ⟨_, F2, kvs, key, k, z, rfl, r2.sub, dr, rv, ek, ez, fun v dv => k2 v dv⟩
    · exact h2.elim
  · exact h2.elim
/-! ### k in d -/
theorem pc_inN (hu : X.A.in1.units + 8 < cLine) (hi : PE X i ti) (ho : PE X o to) : PC X .In i o (fun σ H Q => ti σ H fun y H1 => to σ H1 fun x H2 => ∃ a F kvs key k, x = .ref a ∧ Same F H2 ∧ DN X.K F H2 a kvs ∧ Dq X.K F y key ∧ keyD8 key = some k ∧ Q (.bl (atD kvs k).isSome) H2) := by
  refine ⟨fun pins s σ H Q I h => ?_⟩
  refine thn (hi.run pins s σ H _ I h) fun iv s1 ⟨y, H1, I1, ry, q1⟩ => thn (ho.run pins s1 σ H1 _ I1 q1) fun u s2 ⟨x, H2, I2, rx, a, F, kvs, key, k, ex, sub, ⟨es, ep, xs, vs, dr⟩, kd, ek, q2⟩ => ?_
  subst ex
  obtain rfl : u = Value.ref a := rx
  obtain ⟨b, rfl⟩ := key_ref kd ek
  obtain rfl : iv = Value.ref b := ry
  obtain ⟨dH, _⟩ := dctH I2 sub dr
  refine wpAny_in_heap hu (key_is I2 sub kd ek) dr.nm dH ?_
  rcases dr.ents.at k with ⟨z1, z2⟩ | ⟨a', u', v', d', e1, e2, rv, dv⟩
  · rw [z1]; rw [z2] at q2; exact ⟨.bl false, H2, I2.tok _, rfl, q2⟩
  · rw [e1]; rw [e2] at q2; exact ⟨.bl true, H2, I2.tok _, rfl, q2⟩
theorem pc_ninN (hu : X.A.in1.units + 8 < cLine) (hi : PE X i ti) (ho : PE X o to) : PC X .NotIn i o (fun σ H Q => ti σ H fun y H1 => to σ H1 fun x H2 => ∃ a F kvs key k, x = .ref a ∧ Same F H2 ∧ DN X.K F H2 a kvs ∧ Dq X.K F y key ∧ keyD8 key = some k ∧ Q (.bl (!(atD kvs k).isSome)) H2) := by
  refine ⟨fun pins s σ H Q I h => ?_⟩
  refine thn (hi.run pins s σ H _ I h) fun iv s1 ⟨y, H1, I1, ry, q1⟩ => thn (ho.run pins s1 σ H1 _ I1 q1) fun u s2 ⟨x, H2, I2, rx, a, F, kvs, key, k, ex, sub, ⟨es, ep, xs, vs, dr⟩, kd, ek, q2⟩ => ?_
  subst ex
  obtain rfl : u = Value.ref a := rx
  obtain ⟨b, rfl⟩ := key_ref kd ek
  obtain rfl : iv = Value.ref b := ry
  obtain ⟨dH, _⟩ := dctH I2 sub dr
  refine wpAny_notIn_heap hu (key_is I2 sub kd ek) dr.nm dH ?_
  rcases dr.ents.at k with ⟨z1, z2⟩ | ⟨a', u', v', d', e1, e2, rv, dv⟩
  · rw [z1]; rw [z2] at q2; exact ⟨.bl true, H2, I2.tok _, rfl, q2⟩
  · rw [e1]; rw [e2] at q2; exact ⟨.bl false, H2, I2.tok _, rfl, q2⟩
def inN (neg : Bool) (fi fo : DE) : DE := fun sl S => (fi sl S).bind fun y S1 => (fo sl S1).bind fun x S2 => match dctAt S2 x, y with
  | some (_, kvs), .d key => (match keyD8 key with
    | some k => .ok (.d (.bool (neg ^^ (atD kvs k).isSome))) S2
    | none => .bad)
  | _, _ => .bad
theorem inN_ok {neg : Bool} {H : Hp} {Q : VK} {σ : CxSt} (h : tE X.K X.mg W (inN neg fi fo) σ H Q) : tE X.K X.mg W fi σ H fun y H1 => tE X.K X.mg W fo σ H1 fun x H2 => ∃ a F kvs key k, x = .ref a ∧ Same F H2 ∧ DN X.K F H2 a kvs ∧ Dq X.K F y key ∧ keyD8 key = some k ∧ Q (.bl (neg ^^ (atD kvs k).isSome)) H2 := by
  obtain ⟨ι, F, S, sl, hz, hs, rel, q⟩ := h
  refine tE.two hz hs rel q fun y x S2 ι2 F2 H2 v u s2 r2 rv ru h2 => ?_
  split at h2
  · rename_i kk kvs key e1
    obtain ⟨rfl, e2⟩ := dctAt_eq e1
    obtain ⟨hk, rfl⟩ := ru
    obtain ⟨_, dr⟩ := r2.obj _ _ e2
    split at h2
    · rename_i k ek
      exact ⟨_, F2, kvs, key, k, rfl, r2.sub, dr, rv, ek, h2 ι2 F2 H2 .refl r2 _ (Dq.bl _)⟩
    · exact h2.elim
  · exact h2.elim
theorem tB_in {f : DE} {t : TE} {H : Hp} {σ : CxSt} {Q : Bool → Hp → Prop} (k : ∀ σ H Q, tE X.K X.mg W f σ H Q → t σ H Q) (h : DV.tB X.K X.mg W (asB f) σ H Q) : L2.tB t σ H Q := k _ _ _ (asB_ok h)
theorem q_inN {j : Nat} (hr : Room j X.A) (hi : QE X W i fi) (ho : QE X W o fo) (hm : behindInMarks .In o = false := by rfl) : QE X W (.Compare i [.In] [o] pos) (inN false fi fo) :=
  PE.imp (pe_cmp (pc_inN (room9 hr) hi ho) hm) fun σ H Q h => by simpa using inN_ok h
theorem q_ninN {j : Nat} (hr : Room j X.A) (hi : QE X W i fi) (ho : QE X W o fo) (hm : behindInMarks .NotIn o = false := by rfl) : QE X W (.Compare i [.NotIn] [o] pos) (inN true fi fo) :=
  PE.imp (pe_cmp (pc_ninN (room9 hr) hi ho) hm) fun σ H Q h => by simpa using inN_ok h
theorem t_inN {j : Nat} (hr : Room j X.A) (hi : QE X W i fi) (ho : QE X W o fo) (hm : behindInMarks .In o = false := by rfl) : QT X W (.Compare i [.In] [o] pos) (asB (inN false fi fo)) :=
  PT.imp (pt_cmp (pc_inN (room9 hr) hi ho) hm) fun σ H Q h => tB_in (fun σ H Q h => by simpa using inN_ok h) h
theorem t_ninN {j : Nat} (hr : Room j X.A) (hi : QE X W i fi) (ho : QE X W o fo) (hm : behindInMarks .NotIn o = false := by rfl) : QT X W (.Compare i [.NotIn] [o] pos) (asB (inN true fi fo)) :=
  PT.imp (pt_cmp (pc_ninN (room9 hr) hi ho) hm) fun σ H Q h => tB_in (fun σ H Q h => by simpa using inN_ok h) h
/-! ### methods -/
theorem pe_dm {es : List Expr} {ta : TA} {id : String} {name : Str} {r : V → List V → Hp → VK → Prop} (slot : Slot "dict" name id) (hty : typeOf (.builtin id) = pure (.type "method_descriptor")) (hm : MtR X id r) (ho : PE X o to) (ha : PA X (e :: es) ta)
    (hbase : attributeBase o name X.env (eval o X.env) = eval o X.env := by rfl)
    (hfew : ((backTo cpos (starEach (e :: es) X.env)).all (fun x => !x.1) && (backToKw cpos (keywordEach [] X.env)).all (fun x => x.1.isSome)
      && decide ((e :: es).length + ([] : List Keyword).length + (if ([] : List Keyword).isEmpty then 0 else 1) < 30)) = true := by rfl)
    (hline : (apos.endLine == cpos.line) = true := by rfl) (hs : starEach (e :: es) X.env = (false, eval e X.env) :: starEach es X.env := by rfl) (hplain : (backTo cpos (starEach es X.env)).any (·.1) = false := by rfl) :
    PE X (.Call (.Attribute o name apos) (e :: es) [] cpos) (fun σ H Q => to σ H fun x H1 => (∃ a es ep, x = .ref a ∧ H1 a = some (DctO a es ep)) ∧ ta σ H1 fun xs H2 => r x xs H2 Q) := by
  refine ⟨fun pins s σ H Q I h => ?_⟩
  refine wpAny_Call_method_late hbase hfew hline rfl (thn (ho.run pins s σ H _ I h) fun v s1 ⟨x, H1, I1, r1, ⟨a, es', ep, ex, hd⟩, q1⟩ => ?_)
  subst ex
  obtain rfl : v = Value.ref a := r1
  obtain ⟨⟨ob, e1, e2, e3⟩, _⟩ := I1.hok a _ hd
  refine ⟨"dict", id, F.plainAttrs_dict, slot, hty, ⟨ob, e1, e2.1⟩, (fun b q => by cases q; exact ⟨ob, e1, e2.2.1⟩), ?_⟩
  have hA := ha.run cpos pins s1 σ H1 _ I1 q1
  rw [hs] at hA ⊢
  refine Calls.callWith_builtin (by show (false || (backTo cpos (starEach es X.env)).any (·.1)) = false; rw [hplain] <;> rfl) (Calls.evalArgs_plain ?_)
  exact thn hA fun us s2 ⟨vs, H2, I2, r2, q2⟩ => hm pins s2 σ H2 (.ref a) vs (.ref a) us Q I2 rfl r2 q2
/-- d.get(k, x) -/
def rGetN (K : PySem.W.Frag) : V → List V → Hp → VK → Prop := fun x xs H Q => ∃ a y z F kvs key k dd, x = .ref a ∧ xs = [y, z] ∧ Same F H ∧ DN K F H a kvs ∧ Dq K F y key ∧ keyD8 key = some k ∧ Dq K F z dd ∧ ∀ v, Dq K F v ((atD kvs k).getD dd) → Q v H
theorem mt_getN (hu : X.A.in1.units + 8 < cLine) : MtR X "dict.get" (rGetN X.K) := by
  intro pins s σ H x xs v us Q I rx rxs h
  obtain ⟨a, y, z, F, kvs, key, k, dd, rfl, rfl, sub, ⟨es, ep, xs', vs, dr⟩, kd, ek, zd, q⟩ := h
  cases rx
  obtain ⟨u1, u2, rfl, r1, r2⟩ := vals2 rxs
  obtain ⟨b, rfl⟩ := key_ref kd ek
  cases r1
  obtain ⟨dH, _⟩ := dctH I sub dr
  refine call_meetsIn PySem.F.slot_dict_get dH.typeIs PySem.F.entry_dict_get (PySem.F.args_dict_get_3 _ _ _) (meetsH_dict_get_default (nestedKind X.prog X.w) a b dr.nm u2) ⟨hu, k, xs', key_is I sub kd ek, dH, ?_⟩
  rcases dr.ents.at k with ⟨z1, z2⟩ | ⟨a', u', v', d', e1, e2, rv, dv⟩
  · rw [z1]
    rw [z2] at q
    exact ⟨z, H, I.tok _, r2, q z zd⟩
  · rw [e1]
    rw [e2] at q
    exact ⟨v', H, I.tok _, rv, q v' dv⟩
def getN (fo : DE) (la : DL) : DE := fun sl S => (fo sl S).bind fun x S1 => match dctAt S1 x with
  | none => .bad
  | some _ => (la sl S1).bind fun ys S2 => match dctAt S2 x, ys with
    | some (_, kvs), [.d key, .d dd] => (match keyD8 key with
      | some k => .ok (.d ((atD kvs k).getD dd)) S2
      | none => .bad)
    | _, _ => .bad
theorem q_getN {j : Nat} {la : DL} (hr : Room j X.A) (ho : QE X W o fo) (ha : QA X W [i, e] la) (hbase : attributeBase o "get" X.env (eval o X.env) = eval o X.env := by rfl)
    (hfew : ((backTo cpos (starEach (i :: [e]) X.env)).all (fun x => !x.1) && (backToKw cpos (keywordEach [] X.env)).all (fun x => x.1.isSome)
      && decide ((i :: [e]).length + ([] : List Keyword).length + (if ([] : List Keyword).isEmpty then 0 else 1) < 30)) = true := by rfl)
    (hline : (apos.endLine == cpos.line) = true := by rfl) (hs : starEach (i :: [e]) X.env = (false, eval i X.env) :: starEach [e] X.env := by rfl) (hplain : (backTo cpos (starEach [e] X.env)).any (·.1) = false := by rfl) : QE X W (.Call (.Attribute o "get" apos) [i, e] [] cpos) (getN fo la) := by
  refine PE.imp (pe_dm PySem.F.slot_dict_get PySem.F.type_dict_get (mt_getN (room9 hr)) ho ha hbase hfew hline hs hplain) fun σ H Q ⟨ι, F, S, sl, hz, hs, rel, q⟩ => ?_
  refine ⟨ι, F, S, sl, hz, hs, rel, Aft.imp (Aft.bind q) fun x S1 ι1 F1 H1 ⟨s1, r1, h1⟩ u ru => ?_⟩
  split at h1
  · exact h1.elim
  · rename_i q0 e0
    obtain ⟨k0, kvs0⟩ := q0
    obtain ⟨rfl, e00⟩ := dctAt_eq e0
    obtain ⟨_, es0, ep0, xs0, vs0, dr0⟩ := r1.obj _ _ e00
    obtain ⟨hk0, rfl⟩ := ru
    refine ⟨⟨_, es0, ep0, rfl, dr0.at_⟩, ι1, F1, S1, sl, hz, hs.stp s1, r1, Aft.imp h1.bind fun ys S2 ι2 F2 H2 ⟨s2, r2, h2⟩ us rus => ?_⟩
    split at h2
    · rename_i kk kvs key dd e1 _
      obtain ⟨e3, e2⟩ := dctAt_eq e1
      cases e3
      obtain ⟨_, dr⟩ := r2.obj _ _ e2
      cases rus with
      | cons ra rr =>
        cases rr with
        | cons rb rr =>
          cases RVs.nil_inv rr
          split at h2
          · rename_i k ek
            rw [← s2.ag k0 hk0]
            exact ⟨_, _, _, F2, kvs, key, k, dd, rfl, rfl, r2.sub, dr, ra, ek, rb, fun v dv => h2 ι2 F2 H2 .refl r2 v dv⟩
          · exact h2.elim
    · exact h2.elim
end
end DV
set_option Elab.async false
set_option linter.all false
set_option maxRecDepth 100000
set_option maxHeartbeats 4000000
namespace DV
open PySem PySem.Spec PyProof.Rows L2
section
variable {X : Cx} {W : WX} {pins : List (Addr × Obj)} {σ : L2.St} {F H : Hp} {s : Shared}
variable {o i e c : Expr} {pos apos cpos : Pos} {to ti te : TE} {fo fi fx f fa fb fc : DE} {st : Stmt}
/-- the heap behind d[k] = v -/
abbrev PutN (K : PySem.W.Frag) (F H : Hp) (a : Addr) (kvs2 : KVs) (Q : Hp → Prop) : Prop := ∀ es ep xs vs, DctR K F (upd H a (DctO a es ep)) a kvs2 es ep xs vs → Q (upd H a (DctO a es ep))
def rSetN (K : PySem.W.Frag) : V → V → V → Hp → (Hp → Prop) → Prop := fun o i v H Q => ∃ a F kvs key k d, o = .ref a ∧ Same F H ∧ DN K F H a kvs ∧ Dq K F i key ∧ keyD8 key = some k ∧ Dq K F v d ∧ kvs.length < sizeLine ∧ PutN K F H a (putD kvs key k d) Q
theorem put_len {kvs : KVs} {key : PyData} {k : NestedKey} {d : PyData} (h : kvs.length < sizeLine) : (putD kvs key k d).length ≤ sizeLine := by
  unfold putD
  split
  · simp; omega
  · simp; omega
theorem set_dct (hu : X.A.in1.units + 8 < cLine) : PSet X (rSetN X.K) := by
  intro pins s σ H o i v ov iv u Q I ro ri rv h
  obtain ⟨a, F, kvs, key, k, d, rfl, sub, ⟨es, ep, xs, vs, dr⟩, kd, ek, vd, hl, q⟩ := h
  cases ro
  obtain ⟨b, rfl⟩ := key_ref kd ek
  obtain rfl : iv = Value.ref b := ri
  obtain ⟨dH, _⟩ := dctH I sub dr
  obtain ⟨_, ek1, ek2⟩ := keyD8_of ek
  obtain ⟨vs', er⟩ := dr.ents.put ek1 ek2 kd rv vd
  refine wpAny_setItem_heap (hsz := by rw [dr.ents.length]; omega) hu (key_is I sub kd ek) dH fun h' dH' sb => ?_
  obtain ⟨es', ep', ok, rec⟩ := dct_rec (X := X) dr.nm dH' er
  obtain ⟨o', _, _, e1, _⟩ := dH'
  have I2 : Inv X pins σ (upd H a (DctO a es' ep')) { s with heap := h', toks := s.toks + (nestedKind X.prog X.w).draws k } :=
    d_write I (by rw [dr.at_]; exact True.intro) sb ⟨o', e1⟩ (ok _)
  exact ⟨_, I2, q _ _ _ _ (rec _ upd_same)⟩
/-- .. over the store -/
def putNV (S : Sto) (x y z : Val) : Option Sto := match dctAt S x, y, z with
  | some (k0, kvs), .d key, .d v => (match keyD8 key with
    | some k => if kvs.length < sizeLine then some (S.set k0 (.gh (.dct (putD kvs key k v)))) else none
    | none => none)
  | _, _, _ => none
theorem putNV_ok {K : PySem.W.Frag} {ι : Nat → Addr} {F H : Hp} {S S' : Sto} {x y z : Val} {u v w : V} {Q : Hp → Prop} (rel : Rel K ι F H S) (e : putNV S x y z = some S') (ru : RV K ι F S.length u x) (rv : RV K ι F S.length v y) (rw' : RV K ι F S.length w z)
    (k : ∀ H', Stp ι F H S.length ι F H' S'.length → Rel K ι F H' S' → Q H') : rSetN K u v w H Q := by
  unfold putNV at e
  split at e
  · rename_i k0 kvs key d e0
    obtain ⟨rfl, e00⟩ := dctAt_eq e0
    split at e
    · rename_i kk ek
      split at e
      · rename_i hl
        cases e
        obtain ⟨hk, rfl⟩ := ru
        obtain ⟨_, dn⟩ := rel.obj _ _ e00
        obtain ⟨es, ep, xs, vs, dr⟩ := dn
        refine ⟨_, F, kvs, key, kk, d, rfl, rel.sub, ⟨es, ep, xs, vs, dr⟩, rv, ek, rw', hl, fun es2 ep2 xs2 vs2 dr2 => ?_⟩
        obtain ⟨st, r'⟩ := dct_set rel e00 dr dr2
        exact k _ st r'
      · cases e
    · cases e
  · cases e
def putN (fv fo fi : DE) : DS := fun sl S => thenS (fv sl S) sl fun z S1 => thenS (fo sl S1) sl fun x S2 => thenS (fi sl S2) sl fun y S3 => match putNV S3 x y z with
  | some S4 => .nx sl S4
  | none => .bad
theorem s_putN (h : PS X st (tAsg (tE X.K X.mg W fc) (gSub (tE X.K X.mg W fa) (tE X.K X.mg W fb) (rSetN X.K)))) : QS X W st (putN fc fa fb) := by
  refine PS.imp h fun D σ H ⟨ι, F, S, sl, hz, hs, rel, q⟩ => ?_
  refine ⟨ι, F, S, sl, hz, hs, rel, Aft.imp (AftS.bind hz hs q) fun z S1 ι1 F1 H1 ⟨s1, r1, h1⟩ w rw' => ?_⟩
  refine ⟨ι1, F1, S1, sl, hz, hs.stp s1, r1, Aft.imp (AftS.bind hz (hs.stp s1) h1) fun x S2 ι2 F2 H2 ⟨s2, r2, h2⟩ u ru => ?_⟩
  refine ⟨ι2, F2, S2, sl, hz, (hs.stp s1).stp s2, r2, Aft.imp (AftS.bind hz ((hs.stp s1).stp s2) h2) fun y S3 ι3 F3 H3 ⟨s3, r3, h3⟩ v rv => ?_⟩
  split at h3
  · rename_i S4 e4
    exact putNV_ok r3 e4 (ru.stp s3) rv ((rw'.stp s2).stp s3) fun H' st r' => h3 ι3 F3 H' σ st r' hz ((((hs.stp s1).stp s2).stp s3).stp st)
  · exact h3.elim
/-! ### d.pop(k) -/
def rPopN (K : PySem.W.Frag) : V → List V → Hp → VK → Prop := fun x xs H Q => ∃ a y F kvs key k d, x = .ref a ∧ xs = [y] ∧ Same F H ∧ DN K F H a kvs ∧ Dq K F y key ∧ keyD8 key = some k ∧ atD kvs k = some d ∧ kvs.length ≤ sizeLine ∧ ∀ v, Dq K F v d → PutN K F H a (popD kvs k) (Q v)
theorem mt_popN (hu : X.A.in1.units + 8 < cLine) : MtR X "dict.pop" (rPopN X.K) := by
  intro pins s σ H x xs v us Q I rx rxs h
  obtain ⟨a, y, F, kvs, key, k, d, rfl, rfl, sub, ⟨es, ep, xs', vs, dr⟩, kd, ek, ed, hl, q⟩ := h
  cases rx
  cases rxs with
  | cons r1 rr =>
    cases rr
    obtain ⟨b, rfl⟩ := key_ref kd ek
    cases r1
    obtain ⟨dH, _⟩ := dctH I sub dr
    obtain ⟨vs', er⟩ := dr.ents.pop k
    rcases dr.ents.at k with ⟨_, z⟩ | ⟨a', u', v', d', e1, e2, rv, dv⟩
    · rw [ed] at z; cases z
    · rw [ed] at e2; cases e2
      refine call_pop_heap (hsz := by rw [dr.ents.length]; exact hl) (.inl rfl) (PySem.F.args_dict_pop_2 _ _) hu (key_is I sub kd ek) dr.nm dH e1 fun h' dH' sb => ?_
      obtain ⟨es', ep', ok, rec⟩ := dct_rec (X := X) dr.nm dH' er
      obtain ⟨o', _, _, e1', _⟩ := dH'
      have I2 : Inv X pins σ (upd H a (DctO a es' ep')) { s with heap := h', toks := s.toks + (nestedKind X.prog X.w).draws k } :=
        d_write I (by rw [dr.at_]; exact True.intro) sb ⟨o', e1'⟩ (ok _)
      exact ⟨_, _, I2, rv, q v' dv _ _ _ _ (rec _ upd_same)⟩
def popN (fo : DE) (la : DL) : DE := fun sl S => (fo sl S).bind fun x S1 => match dctAt S1 x with
  | none => .bad
  | some _ => (la sl S1).bind fun ys S2 => match dctAt S2 x, ys with
    | some (k0, kvs), [.d key] => (match keyD8 key with
      | some k => (match atD kvs k with
        | some d => if kvs.length ≤ sizeLine then .ok (.d d) (S2.set k0 (.gh (.dct (popD kvs k)))) else .bad
        | none => .bad)
      | none => .bad)
    | _, _ => .bad
theorem q_popN {j : Nat} {la : DL} (hr : Room j X.A) (ho : QE X W o fo) (ha : QA X W [i] la) (hbase : attributeBase o "pop" X.env (eval o X.env) = eval o X.env := by rfl)
    (hfew : ((backTo cpos (starEach (i :: []) X.env)).all (fun x => !x.1) && (backToKw cpos (keywordEach [] X.env)).all (fun x => x.1.isSome)
      && decide ((i :: []).length + ([] : List Keyword).length + (if ([] : List Keyword).isEmpty then 0 else 1) < 30)) = true := by rfl)
    (hline : (apos.endLine == cpos.line) = true := by rfl) (hs : starEach (i :: []) X.env = (false, eval i X.env) :: starEach [] X.env := by rfl) (hplain : (backTo cpos (starEach [] X.env)).any (·.1) = false := by rfl) : QE X W (.Call (.Attribute o "pop" apos) [i] [] cpos) (popN fo la) := by
  refine PE.imp (pe_dm PySem.F.slot_dict_pop PySem.F.type_dict_pop (mt_popN (room9 hr)) ho ha hbase hfew hline hs hplain) fun σ H Q ⟨ι, F, S, sl, hz, hs, rel, q⟩ => ?_
  refine ⟨ι, F, S, sl, hz, hs, rel, Aft.imp (Aft.bind q) fun x S1 ι1 F1 H1 ⟨s1, r1, h1⟩ u ru => ?_⟩
  split at h1
  · exact h1.elim
  · rename_i q0 e0
    obtain ⟨k0, kvs0⟩ := q0
    obtain ⟨rfl, e00⟩ := dctAt_eq e0
    obtain ⟨_, es0, ep0, xs0, vs0, dr0⟩ := r1.obj _ _ e00
    obtain ⟨hk0, rfl⟩ := ru
    refine ⟨⟨_, es0, ep0, rfl, dr0.at_⟩, ι1, F1, S1, sl, hz, hs.stp s1, r1, Aft.imp h1.bind fun ys S2 ι2 F2 H2 ⟨s2, r2, h2⟩ us rus => ?_⟩
    split at h2
    · rename_i kk kvs key e1 _
      obtain ⟨e3, e2⟩ := dctAt_eq e1
      cases e3
      obtain ⟨_, es, ep, xs, vs, dr⟩ := r2.obj _ _ e2
      cases rus with
      | cons ra rr =>
        cases RVs.nil_inv rr
        split at h2
        · rename_i k ek
          split at h2
          · rename_i d ed
            split at h2
            · rename_i hl
              rw [← s2.ag k0 hk0]
              refine ⟨_, _, F2, kvs, key, k, d, rfl, rfl, r2.sub, ⟨es, ep, xs, vs, dr⟩, ra, ek, ed, hl, fun v dv es2 ep2 xs2 vs2 dr2 => ?_⟩
              obtain ⟨st, r'⟩ := dct_set r2 e2 dr dr2
              exact h2 ι2 F2 _ st r' v (Dq.mono st.ff _ _ dv)
            · exact h2.elim
          · exact h2.elim
        · exact h2.elim
    · exact h2.elim
/-! ### d != {} -/
theorem ne_raw {prog : Program} {w : World} {A : Around} {E : Value → Shared → Prop} {s : Shared} {a b : Addr} {es : Array DictEntry} {ep ep' : Nat} {Q : Value → Shared → Prop} (ha : (a == sysModules) = false) (hb : (b == sysModules) = false)
    (da : s.heap.DictRaw a es ep) (db : s.heap.DictRaw b #[] ep') (hu : A.units < cLine) (h : Q (.bool (decide (es.size ≠ 0))) s) :
    wpAny (model prog w) A (compareOp .NotEq (.ref a) (.ref b)) Q E s := by
  by_cases h0 : es.size = 0
  · obtain ⟨o, e1, e2, e3⟩ := da
    obtain ⟨o', f1, f2, f3⟩ := db
    have ee : es = #[] := Array.size_eq_zero_iff.mp h0
    subst ee
    have da' : s.heap.DictOf (intKind prog w) a [] := ⟨o, #[], ep, e1, e2, e3, (fun _ he => by simp at he), .nil, List.nodup_nil⟩
    have db' : s.heap.DictOf (intKind prog w) b [] := ⟨o', #[], ep', f1, f2, f3, (fun _ he => by simp at he), .nil, List.nodup_nil⟩
    refine PySem.W.keq_ne (r := true) ha hb da' db' hu (fun _ => .nil) ?_
    simpa using h
  · refine wpAny_richCompare_same_room (op := .NotEq) da.typeIs db.typeIs PySem.F.slot_dict_ne (wpAny_call_entry PySem.F.slot_dict_ne da.typeIs PySem.F.entry_dict_ne ?_ (PySem.F.args_dict_ne_2 _ _)) hu
    show wpAny _ _ (Builtin.Dict.dictSlotArgs "__ne__" ⟨[.ref a, .ref b], []⟩ >>= _) _ _ s
    refine wpAny_bind ?_
    unfold Builtin.Dict.dictSlotArgs
    refine wpAny_bind (wpAny_notOrdered_dict da.typeIs ?_)
    show wpAny _ _ (pure (Value.ref a, Value.ref b)) _ _ s
    refine wpAny_pure ?_
    refine wpAny_bind (wpAny_isInstance (T := "dict") db.typeIs PySem.F.sub_dict_dict ?_)
    simp only [Bool.not_true, Bool.false_eq_true, if_false]
    refine wpAny_bind (wpAny_pure (wpAny_bind (wpAny_pure ?_)))
    obtain ⟨o, e1, e2, e3⟩ := da
    obtain ⟨o', f1, f2, f3⟩ := db
    refine wpAny_bind ?_
    unfold Builtin.Dict.samePairs Builtin.Dict.showsAll
    rw [if_neg (show ¬ (a == sysModules) = true by rw [ha]; exact Bool.false_ne_true), if_neg (show ¬ (b == sysModules) = true by rw [hb]; exact Bool.false_ne_true)]
    refine wpAny_bind (wpAny_pure (wpAny_bind (wpAny_pure ?_)))
    refine wpAny_bind (wpAny_dictEntries e1 e3 ?_)
    dsimp only
    refine wpAny_bind (wpAny_dictEntries f1 f3 ?_)
    rw [if_pos (by simpa using h0)]
    refine wpAny_bind (wpAny_rule (wpAny_pure ?_))
    refine wpAny_pure ⟨_, rfl, ?_, ?_⟩
    · exact fun x => nomatch x
    · simpa [h0] using h
theorem pc_neN (hu : X.A.units < cLine) (ho : PE X o to) : PC X .NotEq o (.Dict [] [] pos) (fun σ H Q => to σ H fun x H1 => ∃ a F kvs, x = .ref a ∧ Same F H1 ∧ DN X.K F H1 a kvs ∧ Q (.bl (!kvs.isEmpty)) H1) := by
  refine ⟨fun pins s σ H Q I h => ?_⟩
  refine thn (ho.run pins s σ H _ I h) fun u s1 ⟨x, H1, I1, rx, a, F, kvs, ex, sub, ⟨es, ep, xs, vs, dr⟩, q⟩ => ?_
  subst ex
  obtain rfl : u = Value.ref a := rx
  refine wpAny_Dict_empty ?_
  obtain ⟨_, dr1⟩ := dctH I1 sub dr
  have hlt : a < s1.heap.objs.size := by obtain ⟨o, z, _⟩ := dr1; exact Heap.lt_size z
  have da : (s1.heap.push { cls := .type "dict", data := .dict #[] }).DictRaw a es ep := dr1.at fun o e => Heap.get?_push_of_some _ e
  refine ne_raw dr.nm (beq_eq_false_iff_ne.mpr (Ne.symm (Nat.ne_of_lt I1.big))) da ⟨_, Heap.get?_push_size _ rfl, ⟨rfl, rfl, rfl⟩, rfl⟩ hu ?_
  refine ⟨.bl (!kvs.isEmpty), H1, I1.kept (t' := s1.toks) fun b o e => Heap.get?_push_of_some _ e, ?_, q⟩
  have e1 : es.size = kvs.length := by
    have := congrArg List.length dr.ent
    rw [List.length_map, dr.ents.length] at this
    simpa using this
  show Value.bool (decide (es.size ≠ 0)) = .bool (!kvs.isEmpty)
  rw [e1]
  cases kvs <;> simp
def neN (fo : DE) : DE := fun sl S => (fo sl S).bind fun x S1 => match dctAt S1 x with
  | some (_, kvs) => .ok (.d (.bool (!kvs.isEmpty))) S1
  | none => .bad
theorem neN_ok {H : Hp} {Q : VK} {σ : CxSt} (h : tE X.K X.mg W (neN fo) σ H Q) : tE X.K X.mg W fo σ H fun x H1 => ∃ a F kvs, x = .ref a ∧ Same F H1 ∧ DN X.K F H1 a kvs ∧ Q (.bl (!kvs.isEmpty)) H1 := by
  obtain ⟨ι, F, S, sl, hz, hs, rel, q⟩ := h
  refine ⟨ι, F, S, sl, hz, hs, rel, Aft.imp (Aft.bind q) fun x S1 ι1 F1 H1 ⟨s1, r1, h1⟩ u ru => ?_⟩
  split at h1
  · rename_i kk kvs e1
    obtain ⟨rfl, e2⟩ := dctAt_eq e1
    obtain ⟨hk, rfl⟩ := ru
    obtain ⟨_, dr⟩ := r1.obj _ _ e2
    exact ⟨_, F1, kvs, rfl, r1.sub, dr, h1 ι1 F1 H1 .refl r1 _ (Dq.bl _)⟩
  · exact h1.elim
theorem room0 {k : Nat} {A : Around} (hr : Room k A) : A.units < cLine := by
  have := hr.un
  omega
theorem q_neN {j : Nat} {p2 : Pos} (hr : Room j X.A) (ho : QE X W o fo) : QE X W (.Compare o [.NotEq] [.Dict [] [] p2] pos) (neN fo) :=
  PE.imp (pe_cmp (pc_neN (room0 hr) ho)) fun σ H Q h => neN_ok h
theorem t_neN {j : Nat} {p2 : Pos} (hr : Room j X.A) (ho : QE X W o fo) : QT X W (.Compare o [.NotEq] [.Dict [] [] p2] pos) (asB (neN fo)) :=
  PT.imp (pt_cmp (pc_neN (room0 hr) ho)) fun σ H Q h => tB_in (fun σ H Q h => neN_ok h) h
end
end DV
set_option Elab.async false
set_option linter.all false
set_option maxRecDepth 100000
set_option maxHeartbeats 4000000
namespace DV
open PySem PySem.Spec PyProof.Rows L2
theorem RD.dct {K : PySem.W.Frag} {F H : Hp} {v : V} {kvs : KVs} (s : Same F H) (h : RD K F H v (.dict ((.none, .none) :: kvs))) : ∃ a, v = .ref a ∧ DN K F H a kvs := by
  rcases h with h | ⟨a, vs, ds, rfl, e, h1, h2⟩ | ⟨a, kvs', rfl, e, h1⟩
  · cases h with
    | dk _ _ e _ =>
      rename_i ks _ _ _ _
      cases ks with
      | nil => simp at e
      | cons k ks => cases k <;> simp [keyD] at e
    | dt _ _ e _ =>
      rename_i ks _ _ _ _
      cases ks with
      | nil => simp at e
      | cons k ks => simp at e
    | dn z s' a b c v n q r => exact ⟨_, rfl, _, _, _, _, z, s _ _ s', a, b, c, v, n, q, r⟩
  · cases e
  · cases e
    exact ⟨a, rfl, h1⟩
theorem EntR.size {K : PySem.W.Frag} {F H : Hp} {a : Addr} {kvs : KVs} {es : Array DictEntry} {ep : Nat} {xs : List Ent} {vs : List V} (dr : DctR K F H a kvs es ep xs vs) : es.size = kvs.length := by
  have := congrArg List.length dr.ent
  rw [List.length_map, dr.ents.length] at this
  simpa using this
theorem ent_key {K : PySem.W.Frag} {F H : Hp} {a : Addr} {kvs : KVs} {es : Array DictEntry} {ep : Nat} {xs : List Ent} {vs : List V} (dr : DctR K F H a kvs es ep xs vs) {i : Nat} (hi : i < es.size) : (xs.map fun x => V.ref x.2.1)[i]? = some (.ref ((xs[i]'(by rw [dr.ents.length, ← EntR.size dr]; exact hi)).2.1)) ∧ es[i].key = .ref ((xs[i]'(by rw [dr.ents.length, ← EntR.size dr]; exact hi)).2.1) := by
  have hx : i < xs.length := by rw [dr.ents.length, ← EntR.size dr]; exact hi
  refine ⟨by simp [hx], ?_⟩
  have e : es[i] = entN xs[i] := by
    have := congrArg (·[i]?) dr.ent
    simp only [List.getElem?_map, Array.getElem?_toList, List.getElem?_eq_getElem hx, Array.getElem?_eq_getElem hi, Option.map_some] at this
    exact Option.some.inj this
  rw [e]
  rfl
/-- the keys gathered, as values -/
theorem keys_items {K : PySem.W.Frag} {F H : Hp} {a : Addr} {kvs : KVs} {es : Array DictEntry} {ep : Nat} {xs : List Ent} {vs : List V} (dr : DctR K F H a kvs es ep xs vs) {acc : List Value} (hl : acc.length = es.size) (hv : ∀ (j : Nat) (v : Value), acc[j]? = some v → ∃ hi : j < es.size, v = es[j].key) : Vals (xs.map fun x => V.ref x.2.1) acc := by
  have e : acc = xs.map fun x => Value.ref x.2.1 := by
    refine List.ext_getElem? fun j => ?_
    by_cases hj : j < es.size
    · have hx : j < xs.length := by rw [dr.ents.length, ← EntR.size dr]; exact hj
      obtain ⟨_, e2⟩ := ent_key dr hj
      have ea : acc[j]? = some (acc[j]'(by omega)) := List.getElem?_eq_getElem _
      obtain ⟨_, e3⟩ := hv j _ ea
      rw [ea, e3, e2]
      simp [hx]
    · have hx : xs.length ≤ j := by rw [dr.ents.length, ← EntR.size dr]; omega
      rw [List.getElem?_eq_none (by omega), List.getElem?_eq_none (by simpa using hx)]
  rw [e]
  clear e hv hl dr
  induction xs with
  | nil => exact .nil
  | cons x xs ih => exact .cons rfl ih
section
variable {X : Cx}
/-! ### list(d) -/
def rListN (K : PySem.W.Frag) : List V → Hp → VK → Prop := fun vs H Q => ∃ a F kvs, vs = [.ref a] ∧ Same F H ∧ DN K F H a kvs ∧ kvs.length ≤ sizeLine ∧ ∀ p us, H p = none → DqAll K F us (kvs.map (·.1)) → Q (.ref p) (upd H p (.lst us))
theorem cr_listN (hc : X.calm = true) : CallR X (.type "list") (rListN X.K) := by
  intro pins s σ H xs us Q I r h
  obtain ⟨a, F, kvs, rfl, sub, ⟨es, ep, xs, vs, dr⟩, hl, q⟩ := h
  obtain ⟨u, rfl, rx⟩ := vals1 r
  cases rx
  obtain ⟨dH, dR⟩ := dctH I sub dr
  refine PySem.W.kdl_call (PySem.KdlSrc.rawDict (es := es) (ep := ep) dr.nm) (I.ok.hd hc) dR (by rw [EntR.size dr]; exact hl) fun h' tk acc c hk ho hacc => ?_
  have vv := keys_items dr (acc := acc.toList) (by rw [Array.length_toList]; exact hacc.1) (fun j v e => hacc.2 j v (by rw [← Array.getElem?_toList]; exact e))
  have new : ObjOk X.prog X.w (upd H s.heap.objs.size (.lst (xs.map fun x => V.ref x.2.1))) h' s.heap.objs.size (.lst (xs.map fun x => V.ref x.2.1)) :=
    ⟨by rw [List.length_map, dr.ents.length]; exact hl, acc.toList, c, vv, by simpa using ho⟩
  exact ⟨.ref s.heap.objs.size, _, I.laid (t' := tk) hk (Nat.le_refl _) new, rfl, q _ _ (I.hok.fresh (Nat.le_refl _)) dr.kd⟩
def listND : List PyData → Option PyData
  | [.dict ((.none, .none) :: kvs)] => if kvs.length ≤ sizeLine then some (.list (kvs.map (·.1))) else none
  | _ => none
theorem d_listN {K : PySem.W.Frag} : CaD K (rListN K) listND := fun F H us xs z Q s r e h => by
  unfold listND at e
  split at e
  · split at e
    · rename_i hl
      cases e
      obtain ⟨u, rfl, ru⟩ := r.one
      obtain ⟨a, rfl, dn⟩ := ru.dct s
      refine ⟨a, F, _, rfl, s, dn, hl, fun p us hp d => ?_⟩
      have g := Grow.new (o := .lst us) s hp
      exact h _ _ _ g (.lst upd_same (DqAll.mono g.ff _ _ d))
    · cases e
  · cases e
theorem bListN (hc : X.calm = true) : BltR X (.type "list") listND := ⟨_, cr_listN hc, d_listN⟩
/-! ### max(d) -/
def rMaxN (K : PySem.W.Frag) : List V → Hp → VK → Prop := fun vs H Q => ∃ a F p kvs, vs = [.ref a] ∧ Same F H ∧ DN K F H a (p :: kvs) ∧ PySem.W.AlikeAll ((p :: kvs).map (·.1)) ∧ PyData.canLayAll0 ((p :: kvs).map (·.1)) = true ∧ PyData.depthAll ((p :: kvs).map (·.1)) ≤ 60 ∧ ∀ v, Dq K F v (PySem.W.maxD p.1 (kvs.map (·.1))) → Q v H
theorem cr_maxN (hc : X.calm = true) (hu : X.A.units + 65 < cLine) : CallR X (.builtin "max") (rMaxN X.K) := by
  intro pins s σ H xs us Q I r h
  obtain ⟨a, F, p, kvs, rfl, sub, ⟨es, ep, xs, vs, dr⟩, hal, hcl, hdp, q⟩ := h
  obtain ⟨u, rfl, rx⟩ := vals1 r
  cases rx
  obtain ⟨dH, dR⟩ := dctH I sub dr
  have hsz : es.size = kvs.length + 1 := EntR.size dr
  have hh := I.ok.hd hc
  -- the keys as values, and what they read
  let ks : List Value := (List.range es.size).map fun i => if hi : i < es.size then es[i].key else .none
  have hks : ∀ (j : Nat) (v : Value), ks[j]? = some v ↔ ∃ hi : j < es.size, v = es[j].key := fun j v => by
    constructor
    · intro e
      have hj : j < es.size := by
        have := (List.getElem?_eq_some_iff.mp e).1
        simpa [ks] using this
      refine ⟨hj, ?_⟩
      simp [ks, hj] at e
      exact e.symm
    · rintro ⟨hj, rfl⟩
      simp [ks, hj]
  have vv := keys_items dr (acc := ks) (by simp [ks]) (fun j v e => (hks j v).mp e)
  have dp : DpAll X.K H (xs.map fun x => V.ref x.2.1) ((p :: kvs).map (·.1)) := DqAll.dp (DqAll.mono sub _ _ dr.kd) hcl
  have er : PySem.W.EachIs (fun u d => ∃ as, Reads s.heap u d as) ks ((p :: kvs).map (·.1)) := each_reads I dp vv
  have ra : ∀ {us : List Value} {ds : List PyData}, PySem.W.EachIs (fun u d => ∃ as, Reads s.heap u d as) us ds → ∃ as, ReadsAll s.heap us ds as := fun {us ds} h => by
    induction h with
    | nil => exact ⟨_, .nil⟩
    | cons a b ih =>
      obtain ⟨as, a⟩ := a
      obtain ⟨bs, ih⟩ := ih
      exact ⟨_, .cons a ih⟩
  obtain ⟨as, hr⟩ := ra er
  refine call_max_walkH ?_
  obtain ⟨oI, St, hit, W, st⟩ := (PySem.KdlSrc.rawDict (prog := X.prog) (w := X.w) (es := es) (ep := ep) dr.nm).iter X.A.in1 s hh dR
  refine hit _ _ ⟨s.heap.objs.size, _, _, _, es.size, _, _, s.heap, (fun i j => PySem.W.dataLt (((p :: kvs).map (·.1)).getD j .none) (((p :: kvs).map (·.1)).getD i .none)), rfl, W.toS, st, fun b hb => ?_, by omega, fun b o e hb => ?_, fun b o e => Heap.get?_push_of_some _ e, ?_, fun v s' hP hm => ?_⟩
  · show b < (s.heap.push oI).objs.size
    rw [Heap.size_push]
    rcases List.mem_cons.mp hb with e | hb
    · rw [e]; exact Nat.lt_succ_self _
    · rw [List.mem_singleton.mp hb]; exact Nat.lt_succ_of_lt dR.lt_size
  · exact absurd (Heap.lt_size e) (by rw [List.mem_singleton.mp hb]; exact Nat.lt_irrefl _)
  · have cg := PySem.W.cmpIn_gt (prog := X.prog) (w := X.w) (A := X.A.in1) (s := s) (vs := ks.toArray) (xs := (p :: kvs).map (·.1)) (as := as) (by simpa using hr) hal (by show X.A.units + 1 + _ < cLine; omega)
    intro i j vi vj s' Q E hk hi hj hq
    refine cg i j vi vj s' Q E hk ?_ ?_ hq
    · show ks.toArray[i]? = some vi
      rw [List.getElem?_toArray]; exact (hks i vi).mpr hi
    · show ks.toArray[j]? = some vj
      rw [List.getElem?_toArray]; exact (hks j vj).mpr hj
  · have hk : ∀ b o, s.heap.get? b = some o → s'.heap.get? b = some o := fun b o e =>
      hm.heap b o (fun hI => absurd (Heap.lt_size e) (by rw [List.mem_singleton.mp hI]; exact Nat.lt_irrefl _)) (Heap.get?_push_of_some _ e)
    rw [Moved.eq_with hm]
    have ei : es.size - 1 = kvs.length := by omega
    have ef := PySem.W.argBest_fold (fun a b => PySem.W.dataLt b a) PyData.none p.1 (kvs.map (·.1)) kvs.length (by simp)
    rw [List.take_of_length_le (by simp)] at ef
    obtain ⟨m, em⟩ : ∃ m, argBest (fun i j => PySem.W.dataLt (((p :: kvs).map (·.1)).getD j .none) (((p :: kvs).map (·.1)).getD i .none)) (es.size - 1) = m := ⟨_, rfl⟩
    have em2 : argBest (fun i j => (fun a b => PySem.W.dataLt b a) ((p.1 :: kvs.map (·.1)).getD i .none) ((p.1 :: kvs.map (·.1)).getD j .none)) kvs.length = m := by rw [← em, ei]; rfl
    rw [em] at hP
    rw [em2] at ef
    obtain ⟨hi, hv⟩ := hP
    obtain ⟨e1, e2⟩ := ent_key dr hi
    obtain ⟨v0, e3, d3⟩ : ∃ v0, (xs.map fun x => V.ref x.2.1)[m]? = some v0 ∧ Dq X.K F v0 (PySem.W.maxD p.1 (kvs.map (·.1))) := by
      have hlt : m < ((p :: kvs).map (·.1)).length := by
        simp only [List.length_map, List.length_cons]; omega
      obtain ⟨v0, z1, z2⟩ := dr.kd.get (List.getElem?_eq_getElem hlt)
      refine ⟨v0, z1, ?_⟩
      have e4 : ((p :: kvs).map (·.1))[m] = PySem.W.maxD p.1 (kvs.map (·.1)) := by
        have := ef.2
        rw [List.getD_eq_getElem?_getD] at this
        have e5 : (p.1 :: kvs.map (·.1))[m]? = some (((p :: kvs).map (·.1))[m]) := List.getElem?_eq_getElem hlt
        rw [e5] at this
        exact this
      rw [← e4]
      exact z2
    rw [e1] at e3
    cases e3
    rw [hv, e2]
    exact ⟨.ref (xs[m]'(by rw [dr.ents.length, ← EntR.size dr]; exact hi)).2.1, H, I.kept (t' := s'.toks) hk, rfl, q _ d3⟩
def maxND : List PyData → Option PyData
  | [.dict ((.none, .none) :: p :: kvs)] => if ((p :: kvs).all fun a => (p :: kvs).all fun b => PySem.W.alike a.1 b.1) && ((p :: kvs).all fun a => neT a.1) && PyData.canLayAll0 ((p :: kvs).map (·.1)) && decide (PyData.depthAll ((p :: kvs).map (·.1)) ≤ 60) then some (PySem.W.maxD p.1 (kvs.map (·.1))) else none
  | _ => none
theorem d_maxN {K : PySem.W.Frag} : CaD K (rMaxN K) maxND := fun F H us xs z Q s r e h => by
  unfold maxND at e
  split at e
  · split at e
    · rename_i hl
      cases e
      simp only [Bool.and_eq_true, List.all_eq_true, decide_eq_true_eq] at hl
      obtain ⟨⟨⟨h1, h2⟩, h3⟩, h4⟩ := hl
      obtain ⟨u, rfl, ru⟩ := r.one
      obtain ⟨a, rfl, dn⟩ := ru.dct s
      refine ⟨a, F, _, _, rfl, s, dn, ⟨fun x hx y hy => ?_, fun x hx => ?_⟩, h3, h4, fun v d => h v F H (.refl s) d⟩
      · obtain ⟨q1, m1, rfl⟩ := List.mem_map.mp hx
        obtain ⟨q2, m2, rfl⟩ := List.mem_map.mp hy
        exact h1 _ m1 _ m2
      · obtain ⟨q1, m1, rfl⟩ := List.mem_map.mp hx
        have := h2 _ m1
        intro z
        rw [z] at this
        cases this
    · cases e
  · cases e
theorem bMaxN {j : Nat} (hc : X.calm = true) (hr : Room j X.A) : BltR X (.builtin "max") maxND := ⟨_, cr_maxN hc (by have := hr.un; omega), d_maxN⟩
end
end DV
set_option Elab.async false
set_option linter.all false
set_option maxRecDepth 100000
set_option maxHeartbeats 4000000
namespace DV
open PySem PySem.Spec PyProof.Rows L2
section
variable {X : Cx}
/-! ### sorted(d) -/
open PySem.W in
def rSortN (K : PySem.W.Frag) : List V → Hp → VK → Prop := fun vs H Q => ∃ a F kvs, vs = [.ref a] ∧ Same F H ∧ DN K F H a kvs ∧ kvs.length ≤ sizeLine ∧ sortOk (kvs.map (·.1)) = true ∧ ∀ p us, H p = none → DqAll K F us (isort leD (kvs.map (·.1))) → Q (.ref p) (upd H p (.lst us))
theorem cr_sortN (hc : X.calm = true) (hu : X.A.units + 65 < cLine) : CallR X (.builtin "sorted") (rSortN X.K) := by
  intro pins s σ H xs us Q I r h
  obtain ⟨a, F, kvs, rfl, sub, ⟨es, ep, xs, vs, dr⟩, hl, ok, q⟩ := h
  obtain ⟨u, rfl, rx⟩ := vals1 r
  cases rx
  obtain ⟨dH, dR⟩ := dctH I sub dr
  obtain ⟨h1, h2, h3, h4⟩ := sortOk_spec ok
  refine sorted_coll hu (PySem.W.kdu_collect (PySem.KdlSrc.rawDict (es := es) (ep := ep) dr.nm) (I.ok.hd hc) dR (by rw [EntR.size dr]; exact hl) fun h' tk acc hk hacc => ?_)
  have vv := keys_items dr (acc := acc.toList) (by rw [Array.length_toList]; exact hacc.1) (fun j v e => hacc.2 j v (by rw [← Array.getElem?_toList]; exact e))
  refine ⟨H, _, _, Dq X.K F, I.kept (t' := tk) hk, vv, by rw [List.length_map, dr.ents.length]; exact hl, DqAll.dp (DqAll.mono sub _ _ dr.kd) h4, paired_all.mpr dr.kd, h1, h2, h3, fun l zs hl' pz => ?_⟩
  rw [sort_eq ok] at pz
  exact q l zs hl' (paired_all.mp pz)
def sortND : List PyData → Option PyData
  | [.dict ((.none, .none) :: kvs)] => if kvs.length ≤ sizeLine ∧ sortOk (kvs.map (·.1)) = true then some (.list (isort leD (kvs.map (·.1)))) else none
  | _ => none
theorem d_sortN {K : PySem.W.Frag} : CaD K (rSortN K) sortND := fun F H us xs z Q s r e h => by
  unfold sortND at e
  split at e
  · split at e
    · rename_i hl
      cases e
      obtain ⟨u, rfl, ru⟩ := r.one
      obtain ⟨a, rfl, dn⟩ := ru.dct s
      refine ⟨a, F, _, rfl, s, dn, hl.1, hl.2, fun p us hp d => ?_⟩
      have g := Grow.new (o := .lst us) s hp
      exact h _ _ _ g (.lst upd_same (DqAll.mono g.ff _ _ d))
    · cases e
  · cases e
theorem bSortN {j : Nat} (hc : X.calm = true) (hr : Room j X.A) : BltR X (.builtin "sorted") sortND := ⟨_, cr_sortN hc (Room.u65 hr), d_sortN⟩
end
end DV
set_option Elab.async false
set_option linter.all false
set_option maxRecDepth 100000
set_option maxHeartbeats 4000000
namespace DV
open PySem PySem.Spec PyProof.Rows L2
def pairsD (kvs : KVs) : List PyData := kvs.map fun p => .tuple [p.1, p.2]
theorem EntR.idx {K : PySem.W.Frag} {F : Hp} {xs : List Ent} {vs : List V} {kvs : KVs} (h : EntR K F xs vs kvs) : ∀ {j : Nat} {p : PyData × PyData}, kvs[j]? = some p → ∃ x v, xs[j]? = some x ∧ RelV v x.2.2 ∧ Dq K F (.ref x.2.1) p.1 ∧ Dq K F v p.2 := by
  induction h with
  | nil => intro j p e; simp at e
  | cons a b c d e f ih =>
    intro j q e'
    cases j with
    | zero => simp at e'; subst e'; exact ⟨_, _, rfl, d, c, e⟩
    | succ j => exact ih (by simpa using e')
theorem DqAll.of_get {K : PySem.W.Frag} {F : Hp} : ∀ {vs : List V} {ds : List PyData}, vs.length = ds.length → (∀ (j : Nat) (v : V) (d : PyData), vs[j]? = some v → ds[j]? = some d → Dq K F v d) → DqAll K F vs ds
  | [], [], _, _ => .nil
  | [], _ :: _, h, _ => by simp at h
  | _ :: _, [], h, _ => by simp at h
  | v :: vs, d :: ds, h, k => .cons (k 0 v d rfl rfl) (DqAll.of_get (by simpa using h) fun j v' d' e1 e2 => k (j + 1) v' d' (by simpa using e1) (by simpa using e2))
section
variable {X : Cx} {pins : List (Addr × Obj)} {σ : L2.St} {F H : Hp} {s : Shared}
theorem pairs_taken {a : Addr} {kvs : KVs} {es : Array DictEntry} {ep : Nat} {xs : List Ent} {vs : List V} {h' : Heap} {tk : Nat} {lo : Addr} {as : List Addr} (I : Inv X pins σ H s) (sub : Same F H) (dr : DctR X.K F H a kvs es ep xs vs) (hk : ∀ b o, s.heap.get? b = some o → h'.get? b = some o)
    (hl : as.length = es.size) (g : PySem.W.DilG es lo h' as) (hlo : s.heap.objs.size ≤ lo) (ns : noSum (pairsD kvs) = true) :
    ∃ H2 F2, Inv X pins σ H2 { s with heap := h', toks := tk } ∧ Grow F H F2 H2 ∧ DqAll X.K F2 (as.map V.ref) (pairsD kvs) := by
  have I1 : Inv X pins σ H { s with heap := h', toks := tk } := I.kept hk
  have nd : as.Nodup := List.Pairwise.imp (fun h => Nat.ne_of_lt h) g.rise
  have sz := EntR.size dr
  have er := dr.ents
  -- each pair
  have pr : ∀ (j : Nat) (b : Addr), as[j]? = some b → ∃ p x v, kvs[j]? = some p ∧ xs[j]? = some x ∧ RelV v x.2.2 ∧ Dq X.K F (.ref x.2.1) p.1 ∧ Dq X.K F v p.2 ∧ h'.get? b = some { cls := .type "tuple", data := .seq #[Value.ref x.2.1, x.2.2] } := by
    intro j b hj
    obtain ⟨hjl, hg⟩ := g.pairs j b hj
    have hkl : j < kvs.length := by omega
    obtain ⟨x, v, e1, e2, e3, e4⟩ := er.idx (List.getElem?_eq_getElem hkl)
    refine ⟨_, x, v, List.getElem?_eq_getElem hkl, e1, e2, e3, e4, ?_⟩
    have e5 : es[j] = entN x := by
      have := congrArg (·[j]?) dr.ent
      simp only [List.getElem?_map, Array.getElem?_toList, e1, Array.getElem?_eq_getElem hjl, Option.map_some] at this
      exact Option.some.inj this
    rw [hg, e5]
    rfl
  obtain ⟨H2, I2, hh, q⟩ := L2.DX.takeT (P := fun b ws => ∃ (j : Nat) (p : PyData × PyData) (x : Ent) (v : V), as[j]? = some b ∧ kvs[j]? = some p ∧ ws = [.ref x.2.1, v] ∧ Dq X.K F (.ref x.2.1) p.1 ∧ Dq X.K F v p.2) (h' := h') (tk := tk) I as H I1 nd fun b hb => by
    obtain ⟨j, hj⟩ := List.mem_iff_getElem?.mp hb
    obtain ⟨p, x, v, e0, e1, e2, e3, e4, e5⟩ := pr j b hj
    have hge : s.heap.objs.size ≤ b := Nat.le_of_lt (Nat.lt_of_le_of_lt hlo (g.above b hb))
    refine ⟨hge, I.hok.fresh hge, _, ⟨j, p, x, v, hj, e0, rfl, e3, e4⟩, fun H2 => ⟨by show 2 ≤ sizeLine; decide, [Value.ref x.2.1, x.2.2], .cons rfl (.cons e2 .nil), ⟨_, e5, rfl, 0, rfl⟩⟩⟩
  have new : ∀ b ∈ as, H b = none := fun b hb => I.hok.fresh (Nat.le_of_lt (Nat.lt_of_le_of_lt hlo (g.above b hb)))
  let F2 : Hp := fun b => if b ∈ as then H2 b else F b
  have ff : Same F F2 := fun b o e => by
    show (if b ∈ as then H2 b else F b) = some o
    rw [if_neg fun hb => by have := new b hb; rw [sub _ _ e] at this; cases this]
    exact e
  refine ⟨H2, F2, I2, ⟨ff, hh, fun b o e => ?_, fun b o e => ?_⟩, DqAll.of_get (by unfold pairsD; rw [List.length_map, List.length_map]; omega) fun j v d e1 e2 => ?_⟩
  · have e : (if b ∈ as then H2 b else F b) = some o := e
    split at e
    · exact e
    · exact hh _ _ (sub _ _ e)
  · have e : (if b ∈ as then H2 b else F b) = some o := e
    split at e
    · rename_i hb; exact .inr (new b hb)
    · exact .inl e
  · rw [List.getElem?_map] at e1
    obtain ⟨b, hb, rfl⟩ := Option.map_eq_some_iff.mp e1
    have hm := List.mem_of_getElem? hb
    obtain ⟨ws, ⟨j', p, x, v, q1, q2, rfl, q3, q4⟩, q5⟩ := q b hm
    have ej : j' = j := by
      have h1 := (List.getElem?_eq_some_iff.mp q1)
      have h2 := (List.getElem?_eq_some_iff.mp hb)
      obtain ⟨a1, b1⟩ := h1
      obtain ⟨a2, b2⟩ := h2
      exact (List.getElem_inj nd).mp (b1.trans b2.symm)
    subst ej
    have e3 := e2
    unfold pairsD at e2
    rw [List.getElem?_map, q2] at e2
    cases e2
    refine .tup (SqT.of (?_ : F2 b = some _)) (.cons (Dq.mono ff _ _ q3) (.cons (Dq.mono ff _ _ q4) .nil)) fun h => absurd h (by rw [noSum_at ns e3]; exact Bool.false_ne_true)
    show (if b ∈ as then H2 b else F b) = _
    rw [if_pos hm]
    exact q5
/-! ### d.items(), as a value that is used at once -/
variable {o e : Expr} {pos apos cpos : Pos} {to : TE} {W : WX} {fo : DE}
theorem pe_itemsN (ho : PE X o to) (hbase : attributeBase o "items" X.env (eval o X.env) = eval o X.env := by rfl) (hline : (apos.endLine == cpos.line) = true := by rfl) :
    PE X (.Call (.Attribute o "items" apos) [] [] cpos) (fun σ H Q => to σ H fun x H1 => ∃ a es ep, x = .ref a ∧ H1 a = some (DctO a es ep) ∧ (a == sysModules) = false ∧ ∀ p, H1 p = none → Q (.ref p) (upd H1 p (L2.DX.itemsO p a))) := by
  refine ⟨fun pins s σ H Q I h => ?_⟩
  refine wpAny_Call_method0_late hbase hline (thn (ho.run pins s σ H _ I h) fun v s1 ⟨x, H1, I1, r1, a, es, ep, ex, hd, nm, q⟩ => ?_)
  subst ex
  obtain rfl : v = Value.ref a := r1
  obtain ⟨⟨ob, e1, e2, e3⟩, _⟩ := I1.hok a _ hd
  refine ⟨"dict", "dict.items", F.plainAttrs_dict, F.slot_dict_items, F.type_dict_items, ⟨ob, e1, e2.1⟩, (fun b q => by cases q; exact ⟨ob, e1, e2.2.1⟩), Calls.callWith_builtin rfl (PySem.evalArgs_none ?_)⟩
  refine DT.callItems (es := es) (ep := ep) nm ⟨ob, e1, e2, e3⟩ ?_
  exact ⟨.ref s1.heap.objs.size, _, I1.laid (t' := s1.toks) (fun b u e => Heap.get?_push_of_some _ e) (Nat.le_refl _) (L2.DX.itemsO_ok (Heap.get?_push_size _ rfl)), rfl, q _ (I1.hok.fresh (Nat.le_refl _))⟩
/-! ### sorted(d.items()) -/
def rSortIt (K : PySem.W.Frag) : List V → Hp → VK → Prop := fun vs H Q => ∃ p a F kvs, vs = [.ref p] ∧ H p = some (L2.DX.itemsO p a) ∧ Same F H ∧ DN K F H a kvs ∧ kvs.length ≤ sizeLine ∧ sortOk (pairsD kvs) = true ∧ noSum (pairsD kvs) = true ∧ ∀ t F' H', Grow F H F' H' → Dq K F' t (.list (isort leD (pairsD kvs))) → Q t H'
theorem cr_sortIt (hc : X.calm = true) (hu : X.A.units + 65 < cLine) : CallR X (.builtin "sorted") (rSortIt X.K) := by
  intro pins s σ H xs us Q I r h
  obtain ⟨p, a, F, kvs, rfl, hp, sub, ⟨es, ep, xs, vs, dr⟩, hl, ok, ns, q⟩ := h
  obtain ⟨u, rfl, rx⟩ := vals1 r
  cases rx
  obtain ⟨dH, dR⟩ := dctH I sub dr
  have view : s.heap.IsItemsView p a := (show ObjOk X.prog X.w H s.heap p (L2.DX.itemsO p a) from I.hok p _ hp).1
  obtain ⟨h1, h2, h3, h4⟩ := sortOk_spec ok
  refine sorted_coll hu (PySem.W.dil_collect (es := es) (ep := ep) (I.ok.hd hc) view dR (by rw [EntR.size dr]; exact hl) fun h' tk as hk hal g => ?_)
  obtain ⟨H2, F2, I2, gr, dq⟩ := pairs_taken (tk := tk) I sub dr hk hal g (Nat.le_refl _) ns
  have hlen : (as.map V.ref).length ≤ sizeLine := by rw [List.length_map, hal, EntR.size dr]; exact hl
  refine ⟨H2, as.map V.ref, _, Dq X.K F2, I2, ?_, hlen, DqAll.dp (DqAll.mono gr.sub _ _ dq) h4, paired_all.mpr dq, h1, h2, h3, fun l zs hl' pz => ?_⟩
  · clear hlen dq hal g
    induction as with
    | nil => exact .nil
    | cons b bs ih => exact .cons rfl ih
  · rw [sort_eq ok] at pz
    have g2 := Grow.new (o := .lst zs) gr.sub hl'
    exact q _ _ _ (gr.trans g2) (.lst upd_same (DqAll.mono g2.ff _ _ (paired_all.mp pz)))
def srtIt (fo : DE) : DE := fun sl S => (fo sl S).bind fun x S1 => match dctAt S1 x with
  | some (_, kvs) => if kvs.length ≤ sizeLine ∧ sortOk (pairsD kvs) = true ∧ noSum (pairsD kvs) = true then .ok (.d (.list (isort leD (pairsD kvs)))) S1 else .bad
  | none => .bad
theorem view_grow {K : PySem.W.Frag} {F H : Hp} {p a : Addr} (s : Same F H) (hp : H p = none) : Grow F H F (upd H p (L2.DX.itemsO p a)) :=
  ⟨Same.refl _, fun a o h => by rw [upd_ne (ne_of_none h hp)]; exact h, fun a o h => by rw [upd_ne (ne_of_none (s _ _ h) hp)]; exact s _ _ h, fun a o h => .inl h⟩
theorem q_srtIt (h : PE X e (tCB (rSortIt X.K) (tCons (fun σ H Q => tE X.K X.mg W fo σ H fun x H1 => ∃ a es ep, x = .ref a ∧ H1 a = some (DctO a es ep) ∧ (a == sysModules) = false ∧ ∀ p, H1 p = none → Q (.ref p) (upd H1 p (L2.DX.itemsO p a))) tNil))) : QE X W e (srtIt fo) := by
  refine PE.imp h fun σ H Q ⟨ι, F, S, sl, hz, hs, rel, q⟩ => ?_
  refine ⟨ι, F, S, sl, hz, hs, rel, Aft.imp (Aft.bind q) fun x S1 ι1 F1 H1 ⟨s1, r1, h1⟩ u ru => ?_⟩
  split at h1
  · rename_i kk kvs e1
    obtain ⟨rfl, e2⟩ := dctAt_eq e1
    obtain ⟨hk, rfl⟩ := ru
    obtain ⟨_, es, ep, xs, vs, dr⟩ := r1.obj _ _ e2
    split at h1
    · rename_i ok
      refine ⟨_, es, ep, rfl, dr.at_, dr.nm, fun p hp => ?_⟩
      have g0 := view_grow (K := X.K) (a := ι1 kk) r1.sub hp
      refine ⟨p, ι1 kk, F1, kvs, rfl, upd_same, g0.sub, ⟨es, ep, xs, vs, dr.ext (Same.refl _) ((g0.hh _ _ dr.at_).trans dr.at_.symm)⟩, ok.1, ok.2.1, ok.2.2, fun t F' H' g d => ?_⟩
      have g2 := g0.trans g
      exact h1 ι1 F' H' g2.stp (r1.grow g2) t d
    · exact h1.elim
  · exact h1.elim
end
end DV
set_option Elab.async false
set_option linter.all false
set_option maxRecDepth 100000
set_option maxHeartbeats 4000000
namespace DV
open PySem PySem.Spec PyProof.Rows L2
section
variable {prog : Program} {w : World} {A : Around} {E : Value → Shared → Prop} {s : Shared}
theorem maybe_alive {a : Addr} {Q : Option Obj → Shared → Prop} (h : Q (s.heap.get? a) s) : wpAny (model prog w) A (loadIfAlive a) Q E s := fun _ _ _ => h
/-- the next pair, whether the pair that the iterator keeps in mind still stands or not -/
theorem next_pair {it d a : Addr} {f : Bool} {i ep : Nat} {es : Array DictEntry} {ok ov : Value} {Q : Option Value → Shared → Prop} (hit : PySem.W.KdxIt s.heap it d i es.size ep ok ov a f) (hm : s.heap.DictRaw d es ep) (hlt : i < es.size)
    (hQ : ∀ h' ok' ov' a' f', PySem.W.KdxIt h' it d (i + 1) es.size ep ok' ov' a' f' → h'.get? s.heap.objs.size = some { cls := .type "tuple", data := .seq #[es[i].key, es[i].val] } → h'.objs.size = s.heap.objs.size + 1 →
      (∀ b o, b ≠ it → s.heap.get? b = some o → h'.get? b = some o) → Q (some (.ref s.heap.objs.size)) { s with heap := h' }) :
    wpAny (model prog w) A (pyNext (.ref it)) Q E s := by
  obtain ⟨hp, g, dr, tk, os⟩ := s
  obtain ⟨od, hod, hcd, hdd⟩ := id hm
  have hT : Shared.TypeIs ⟨hp, g, dr, tk, os⟩ (.ref it) "dict_itemiterator" := ⟨_, hit, rfl⟩
  unfold pyNext
  refine wpAny_bind (wpAny_attempt (wpAny_callSpecial?_slot (name := Str.ofString "__next__") hT PySem.F.slot_dict_itemiterator_next (wpAny_call_entry PySem.F.slot_dict_itemiterator_next hT PySem.F.entry_dict_itemiterator_next ?_ (PySem.F.args_dict_itemiterator_next_1 _))))
  refine wpAny_bind (wpAny_pure (wpAny_bind (wpAny_bind ?_)))
  first | refine wpAny_bind (wpAny_typeNameOfWhole_itemiter hT (wpAny_pure ?_)) | refine wpAny_bind (wpAny_typeNameOf_itemiter hT (wpAny_pure ?_))
  refine wpAny_bind (wpAny_fieldsOf hit rfl ?_)
  simp only [show Builtin.Dict_items.ownsTuple "dict_itemiterator" = true by decide, if_true]
  show wpAny _ _ (if (Value.ref d == Value.none) = true then _ else _) _ _ _
  rw [if_neg (show ¬ ((Value.ref d == Value.none) = true) from Bool.false_ne_true)]
  refine wpAny_bind (wpAny_pure (wpAny_bind (wpAny_dictEntries hod hdd ?_)))
  rw [if_neg (by simp)]
  refine wpAny_bind (wpAny_pure (wpAny_bind (wpAny_dictEpoch hod hdd ?_)))
  rw [if_neg (by simp)]
  refine wpAny_pure ?_
  simp only [show ¬ ((i : Int) < 0) from by omega, if_false, Int.toNat_natCast, Array.getElem?_eq_getElem hlt]
  refine wpAny_bind ?_
  first | refine wpAny_bind (wpAny_typeNameOfWhole_itemiter hT (wpAny_pure ?_)) | refine wpAny_bind (wpAny_typeNameOf_itemiter hT (wpAny_pure ?_))
  refine wpAny_bind (wpAny_isOneOf_itemiter hT ?_)
  show wpAny _ _ (setField (.ref it) 3 (rawInt ((i : Int) + 1)) >>= _) _ _ ⟨hp, g, dr, tk, os⟩
  refine wpAny_bind (wpAny_setField_rec hit (by simp) fun h₁ he₁ hs₁ => ?_)
  replace hs₁ : Heap.SameBut it hp h₁ := hs₁
  replace he₁ : PySem.W.KdxIt h₁ it d (i + 1) es.size ep ok ov a f := by
    have e : ((i + 1 : Nat) : Int) = (i : Int) + 1 := by omega
    unfold PySem.W.KdxIt; rw [e]; simpa [rawInt] using he₁
  have hT₁ : Shared.TypeIs ⟨h₁, g, dr, tk, os⟩ (.ref it) "dict_itemiterator" := ⟨_, he₁, rfl⟩
  refine wpAny_bind (wpAny_holding (wpAny_bind (wpAny_isOneOf_itemiter hT₁ (wpAny_bind (wpAny_isOneOf_itemiter hT₁ ?_)))))
  show wpAny _ _ (Builtin.Dict_items.pairFromOwner (.ref it) 6 es[i].key es[i].val) _ _ ⟨h₁, g, dr, tk, os⟩
  unfold Builtin.Dict_items.pairFromOwner
  refine wpAny_bind (wpAny_newTuple ?_)
  have eB : PySem.W.KdxIt (h₁.push { cls := .type "tuple", data := .seq #[es[i].key, es[i].val] }) it d (i + 1) es.size ep ok ov a f := Heap.get?_push_of_some _ he₁
  generalize hhB : h₁.push { cls := .type "tuple", data := .seq #[es[i].key, es[i].val] } = hB at eB
  have hz₁ : h₁.objs.size = hp.objs.size := hs₁.1
  have hil : it < hp.objs.size := Heap.lt_size hit
  have ht₂ : hB.get? hp.objs.size = some { cls := .type "tuple", data := .seq #[es[i].key, es[i].val] } := by rw [← hhB, ← hz₁]; exact Heap.get?_push_size _ rfl
  have hz₂ : hB.objs.size = hp.objs.size + 1 := by rw [← hhB, Heap.size_push, hz₁]
  have hk₂ : ∀ b o, b ≠ it → hp.get? b = some o → hB.get? b = some o := fun b o hb e => by rw [← hhB]; exact Heap.get?_push_of_some _ (hs₁.extBut b o hb e)
  show wpAny _ _ (Builtin.Dict_items.ownedTupleIsFree (.ref it) >>= _) _ _ ⟨hB, g, dr, tk, os⟩
  rw [hz₁]
  clear hhB he₁ hs₁ hT₁ hz₁ h₁
  have fin : ∀ (hC : Heap) ok' ov' a' f', PySem.W.KdxIt hC it d (i + 1) es.size ep ok' ov' a' f' → Heap.SameBut it hB hC → Q (some (.ref hp.objs.size)) ⟨hC, g, dr, tk, os⟩ := fun hC ok' ov' a' f' eC sC =>
    hQ hC ok' ov' a' f' eC (by exact sC.extBut _ _ (Nat.ne_of_gt hil) ht₂) (by show hC.objs.size = hp.objs.size + 1; rw [sC.1, hz₂]) fun b o hb e => sC.extBut b o hb (hk₂ b o hb e)
  refine wpAny_bind ?_
  unfold Builtin.Dict_items.ownedTupleIsFree
  refine wpAny_bind (wpAny_field eB rfl (x := rawInt a) rfl ?_)
  change wpAny _ _ (loadIfAlive (Int.toNat (a : Int)) >>= _) _ _ _
  rw [Int.toNat_natCast]
  refine wpAny_bind (maybe_alive ?_)
  show wpAny _ _ (if ((hB.get? a).isNone) = true then _ else _) _ _ _
  cases hal : hB.get? a with
  | some oa =>
    simp only [Option.isNone_some, Bool.false_eq_true, if_false]
    refine wpAny_bind (wpAny_field eB rfl (x := .bool f) rfl ?_)
    cases f with
    | true =>
      rw [if_neg (show ¬ ((Value.bool true != Value.bool true) = true) from Bool.false_ne_true)]
      refine wpAny_pure ?_
      simp only [Bool.false_eq_true, if_false]
      exact wpAny_pure (wpAny_pure ⟨_, rfl, wpAny_pure (fin hB _ _ _ _ eB (Heap.SameBut.refl _ _))⟩)
    | false =>
      rw [if_pos (show (Value.bool false != Value.bool true) = true from rfl)]
      refine wpAny_bind (wpAny_setField_rec eB (by simp) fun hC eC sC => ?_)
      replace sC : Heap.SameBut it hB hC := sC
      replace eC : PySem.W.KdxIt hC it d (i + 1) es.size ep ok ov a true := eC
      refine wpAny_pure ?_
      simp only [Bool.false_eq_true, if_false]
      exact wpAny_pure (wpAny_pure ⟨_, rfl, wpAny_pure (fin hC _ _ _ _ eC sC)⟩)
  | none =>
    simp only [Option.isNone_none, if_true]
    refine wpAny_pure ?_
    simp only [if_true]
    refine wpAny_bind (wpAny_field eB rfl (x := ok) rfl ?_)
    refine wpAny_bind (wpAny_field eB rfl (x := ov) rfl ?_)
    refine wpAny_bind (wpAny_setField_rec eB (by simp) fun hC eC sC => ?_)
    replace sC : Heap.SameBut it hB hC := sC
    replace eC : PySem.W.KdxIt hC it d (i + 1) es.size ep es[i].key ov a f := eC
    refine wpAny_bind (wpAny_setField_rec eC (by simp) fun hD eD sD => ?_)
    replace sD : Heap.SameBut it hC hD := sD
    replace eD : PySem.W.KdxIt hD it d (i + 1) es.size ep es[i].key es[i].val a f := eD
    refine wpAny_bind (wpAny_setField_rec eD (by simp) fun hE eE sE => ?_)
    replace sE : Heap.SameBut it hD hE := sE
    replace eE : PySem.W.KdxIt hE it d (i + 1) es.size ep es[i].key es[i].val hp.objs.size f := eE
    refine wpAny_bind (wpAny_setField_rec eE (by simp) fun hF eF sF => ?_)
    replace sF : Heap.SameBut it hE hF := sF
    replace eF : PySem.W.KdxIt hF it d (i + 1) es.size ep es[i].key es[i].val hp.objs.size false := eF
    exact wpAny_bind (wpAny_letGo (wpAny_pure (wpAny_pure ⟨_, rfl, wpAny_pure (fin hF _ _ _ _ eF (((sC.trans sD).trans sE).trans sF))⟩)))
end
end DV
set_option Elab.async false
set_option linter.all false
set_option maxRecDepth 100000
set_option maxHeartbeats 4000000
namespace DV
open PySem PySem.Spec PyProof.Rows L2
/-- the pairs of the dict at d, each a new tuple -/
def ItN (d : Addr) (es : Array DictEntry) (ep : Nat) (xs : List Ent) (vs : List V) : It :=
  ⟨fun i H => H d = some (DctO d es ep) ∧ i < es.size, fun i H x H' => ∃ T xe v, xs[i]? = some xe ∧ vs[i]? = some v ∧ x = .ref T ∧ H T = none ∧ H' = upd H T (.tup [.ref xe.2.1, v]), fun i H => H d = some (DctO d es ep) ∧ es.size ≤ i⟩
theorem EntR.vidx {K : PySem.W.Frag} {F : Hp} {xs : List Ent} {vs : List V} {kvs : KVs} (h : EntR K F xs vs kvs) : ∀ {j : Nat} {p : PyData × PyData}, kvs[j]? = some p → ∃ x v, xs[j]? = some x ∧ vs[j]? = some v ∧ RelV v x.2.2 ∧ Dq K F (.ref x.2.1) p.1 ∧ Dq K F v p.2 := by
  induction h with
  | nil => intro j p e; simp at e
  | cons a b c d e f ih =>
    intro j q e'
    cases j with
    | zero => simp at e'; subst e'; exact ⟨_, _, rfl, rfl, d, c, e⟩
    | succ j => exact ih (by simpa using e')
def TnN (it d : Addr) (n ep : Nat) (i : Nat) (h : Heap) : Prop := (i = 0 ∧ ∃ ok ov, IsItemIter h it d 0 n ep ok ov) ∨ ∃ ok ov a f, PySem.W.KdxIt h it d i n ep ok ov a f
section
variable {P : Program} {w : World} {K : PySem.W.Frag} {d : Addr} {es : Array DictEntry} {ep : Nat} {xs : List Ent} {vs : List V}
theorem TnN.obj {it : Addr} {n i : Nat} {h : Heap} (st : TnN it d n ep i h) : ∃ fs : Array Value, h.get? it = some { cls := .type "dict_itemiterator", data := .fields fs } := by
  rcases st with ⟨_, ok, ov, e⟩ | ⟨ok, ov, a, f, e⟩
  · exact ⟨_, e⟩
  · exact ⟨_, e⟩
theorem turn_itemsN {x : Str} {p : Pos} (it : Addr) (hx : es.toList = xs.map entN) (hv : Vals vs (xs.map fun x => x.2.2)) : Turn P w K (.Name x p) (ItN d es ep xs vs) [it] it (TnN it d es.size ep) where
  mem := by simp
  obj := fun i h st b hb => by
    have e : b = it := by simpa using hb
    subst e
    obtain ⟨fs, e⟩ := st.obj
    exact ⟨_, e, fun v z => nomatch z⟩
  keep := fun i h h' st k => by
    rcases st with ⟨z, ok, ov, e⟩ | ⟨ok, ov, a, f, e⟩
    · exact .inl ⟨z, ok, ov, k it (by simp) _ e⟩
    · exact .inr ⟨ok, ov, a, f, k it (by simp) _ e⟩
  item := by
    intro X hP hw hK hc i pins s σ H E I hf st hg
    subst hP hw hK
    obtain ⟨hd, hi⟩ := hg
    obtain ⟨hr, _, _⟩ := I.hok d _ hd
    have hr : s.heap.DictRaw d es ep := hr
    obtain ⟨fs, hit⟩ := st.obj
    have hlt : it < s.heap.objs.size := Heap.lt_size hit
    have hxl : i < xs.length := by
      have := congrArg List.length hx
      simp at this
      omega
    have e1 : es[i] = entN xs[i] := by
      have := congrArg (·[i]?) hx
      simp only [List.getElem?_map, Array.getElem?_toList, List.getElem?_eq_getElem hxl, Array.getElem?_eq_getElem hi, Option.map_some] at this
      exact Option.some.inj this
    have hvl : i < vs.length := by rw [hv.length, List.length_map]; exact hxl
    obtain ⟨u, hu, ru⟩ := hv.get (List.getElem?_eq_getElem hvl)
    have eu : u = xs[i].2.2 := by
      rw [List.getElem?_map, List.getElem?_eq_getElem hxl] at hu
      exact (Option.some.inj hu).symm
    subst eu
    have main : ∀ h' ok' ov' a' f', PySem.W.KdxIt h' it d (i + 1) es.size ep ok' ov' a' f' → h'.get? s.heap.objs.size = some { cls := .type "tuple", data := .seq #[es[i].key, es[i].val] } → h'.objs.size = s.heap.objs.size + 1 →
        (∀ b o, b ≠ it → s.heap.get? b = some o → h'.get? b = some o) → ∃ u, some (Value.ref s.heap.objs.size) = some u ∧ wpAny (model X.prog X.w) X.A (letOwnedTupleGo (.Name x p) (.ref it) u) (fun _ s2 => ∃ y H', Inv X pins σ H' s2 ∧ RelV y u ∧ (ItN d es ep xs vs).yld i H y H' ∧ TnN it d es.size ep (i + 1) s2.heap ∧ ∀ b ∈ [it], H' b = none) E { s with heap := h' } := by
      intro h' ok' ov' a' f' he hT hz hk
      refine ⟨_, rfl, ?_⟩
      show wpAny _ _ (pure ()) _ _ _
      have new : ObjOk X.prog X.w (upd H s.heap.objs.size (.tup [.ref xs[i].2.1, vs[i]])) h' s.heap.objs.size (.tup [.ref xs[i].2.1, vs[i]]) := by
        rw [e1] at hT
        exact ⟨by show 2 ≤ sizeLine; decide, [Value.ref xs[i].2.1, xs[i].2.2], .cons rfl (.cons ru .nil), ⟨_, hT, rfl, 0, rfl⟩⟩
      have I1 : Inv X pins σ (upd H s.heap.objs.size (.tup [.ref xs[i].2.1, vs[i]])) { s with heap := h' } :=
        I.turnedNew (t' := s.toks) (ch := [it]) (fun b ob hb e => hk b ob (by simpa using hb) e) hf (Nat.le_refl _) new
      refine wpAny_pure ⟨.ref s.heap.objs.size, _, I1, rfl, ⟨_, xs[i], vs[i], List.getElem?_eq_getElem hxl, List.getElem?_eq_getElem hvl, rfl, I.hok.fresh (Nat.le_refl _), rfl⟩, .inr ⟨_, _, _, _, he⟩, fun b hb => ?_⟩
      have e : b = it := by simpa using hb
      rw [e, upd_ne (Nat.ne_of_lt hlt)]
      exact (hf it (by simp)).1
    rcases st with ⟨z, ok, ov, e⟩ | ⟨ok, ov, a, f, e⟩
    · subst z
      exact wpAny_pyNext_items_item_raw e hr hi fun h' he hT hz hk => main h' _ _ _ false he hT hz hk
    · exact next_pair e hr hi main
  done := by
    intro X hP hw hK hc i pins s σ H E I hf st hg
    subst hP hw hK
    obtain ⟨hd, hi⟩ := hg
    obtain ⟨f0, f1, f2, f3, f4, f5⟩ := hf it (by simp)
    obtain ⟨hr, _, _⟩ := I.hok d _ hd
    have hr : s.heap.DictRaw d es ep := hr
    rcases st with ⟨z, ok, ov, e⟩ | ⟨ok, ov, a, f, e⟩
    · subst z
      exact wpAny_pyNext_items_end_raw (I.ok.hd hc) e hr hi fun h' eb => ⟨rfl, I.turned (t' := s.toks) (fun b ob hb e => eb b ob hb e) f0 f1 f3 f4 f5⟩
    · exact wpAny_pyNext_items_end_out_raw (I.ok.hd hc) e hr hi fun h' eb => ⟨rfl, I.turned (t' := s.toks) (fun b ob hb e => eb b ob hb e) f0 f1 f3 f4 f5⟩
  self := fun A i s Q E st h => by
    obtain ⟨fs, e⟩ := st.obj
    have hT : s.TypeIs (.ref it) "dict_itemiterator" := ⟨_, e, rfl⟩
    refine wpAny_pyIter_slot hT PySem.F.slot_dict_itemiterator_iter (wpAny_call_entry PySem.F.slot_dict_itemiterator_iter hT PySem.W.kcp_entry ?_ (PySem.F.args_dict_itemiterator_iter_1 _))
    show wpAny _ _ (ret (.ref it)) _ _ s
    exact wpAny_pure ⟨_, rfl, "dict_itemiterator", _, hT, PySem.F.slot_dict_itemiterator_next.lookup, h⟩
end
section
variable {X : Cx} {W : WX} {o : Expr} {apos cpos p : Pos} {x : Str} {to : TE} {fo : DE}
theorem pi_itemsN (ho : PE X o to) (hbase : attributeBase o "items" X.env (eval o X.env) = eval o X.env := by rfl) (hline : (apos.endLine == cpos.line) = true := by rfl) :
    PI X (.Name x p) (.Call (.Attribute o "items" apos) [] [] cpos) (fun σ H R => to σ H fun v H1 => ∃ d es ep xs vs, v = .ref d ∧ H1 d = some (DctO d es ep) ∧ (d == sysModules) = false ∧ es.toList = xs.map entN ∧ Vals vs (xs.map fun x => x.2.2) ∧ R (ItN d es ep xs vs) H1) := by
  refine ⟨fun pins s σ H R I h => ?_⟩
  refine wpAny_Call_method0_late hbase hline (thn (ho.run pins s σ H _ I h) fun u s1 ⟨v, H1, I1, r1, d, es, ep, xs, vs, ex, hd, nm, hx, hv, q⟩ => ?_)
  subst ex
  obtain rfl : u = Value.ref d := r1
  obtain ⟨⟨ob, e1, e2, e3⟩, _⟩ := I1.hok d _ hd
  refine ⟨"dict", "dict.items", F.plainAttrs_dict, F.slot_dict_items, F.type_dict_items, ⟨ob, e1, e2.1⟩, (fun b q => by cases q; exact ⟨ob, e1, e2.2.1⟩), Calls.callWith_builtin rfl (PySem.evalArgs_none ?_)⟩
  refine DT.callItems (es := es) (ep := ep) nm ⟨ob, e1, e2, e3⟩ ?_
  have I2 : Inv X pins σ H1 { s1 with heap := s1.heap.push { cls := .type "dict_items", data := .fields #[.ref d] } } := I1.kept (t' := s1.toks) fun b ob q => Heap.get?_push_of_some _ q
  have hr : (s1.heap.push { cls := .type "dict_items", data := .fields #[.ref d] }).DictRaw d es ep := ⟨ob, Heap.get?_push_of_some _ e1, e2, e3⟩
  refine wpAny_pyIter_items_raw (d := d) ⟨_, Heap.get?_push_size _ rfl, rfl, rfl⟩ hr (pi_one (tk := s1.toks) I2 _ (turn_itemsN _ hx hv) (.inl ⟨rfl, .none, .none, ?_⟩) q)
  exact Heap.get?_push_size _ rfl
/-- .. over data -/
def itemsI (fo : DE) : IT := fun sl S => (fo sl S).bind fun x S1 => match x with
  | .d (.dict ((.none, .none) :: kvs)) => if noSum (pairsD kvs) = true then .ok (pairsD kvs) S1 else .bad
  | _ => .bad
theorem it_items {K : PySem.W.Frag} {F : Hp} {d : Addr} {kvs : KVs} {es : Array DictEntry} {ep : Nat} {xs : List Ent} {vs : List V} (dr : DctR K F F d kvs es ep xs vs) (ns : noSum (pairsD kvs) = true) : ItOk K F (ItN d es ep xs vs) (pairsD kvs) where
  go := fun i F1 H1 hi f1 f2 => by
    have hl : (pairsD kvs).length = kvs.length := by simp [pairsD]
    exact ⟨f2 _ _ (f1 _ _ dr.at_), by rw [EntR.size dr, ← hl]; exact hi⟩
  yld := fun i F1 H1 x H2 hi f1 f2 ⟨T, xe, v, e1, e2, e3, hT, e4⟩ => by
    have hl : (pairsD kvs).length = kvs.length := by simp [pairsD]
    have hk : i < kvs.length := by omega
    obtain ⟨xe', v', q1, q2, q3, q4, q5⟩ := dr.ents.vidx (List.getElem?_eq_getElem hk)
    rw [q1] at e1
    rw [q2] at e2
    cases e1
    cases e2
    subst e3 e4
    have g := Grow.new (o := .tup [.ref xe.2.1, v]) f2 hT
    have ep : (pairsD kvs)[i]? = some (.tuple [kvs[i].1, kvs[i].2]) := by unfold pairsD; rw [List.getElem?_map, List.getElem?_eq_getElem hk]; rfl
    exact ⟨_, _, ep, g, .tup (SqT.of upd_same) (.cons (Dq.mono (f1.trans g.ff) _ _ q4) (.cons (Dq.mono (f1.trans g.ff) _ _ q5) .nil)) fun h => absurd h (by rw [noSum_at ns ep]; exact Bool.false_ne_true)⟩
  stop := fun i F1 H1 hi f1 f2 => by
    have hl : (pairsD kvs).length = kvs.length := by simp [pairsD]
    exact ⟨f2 _ _ (f1 _ _ dr.at_), by rw [EntR.size dr, ← hl]; exact hi⟩
theorem Dq.dct {K : PySem.W.Frag} {F : Hp} {v : V} {kvs : KVs} (h : Dq K F v (.dict ((.none, .none) :: kvs))) : ∃ a, v = .ref a ∧ DN K F F a kvs := RD.dct (Same.refl _) (.inl h)
theorem i_itemsN (ho : QE X W o fo) (hbase : attributeBase o "items" X.env (eval o X.env) = eval o X.env := by rfl) (hline : (apos.endLine == cpos.line) = true := by rfl) : QI X W (.Name x p) (.Call (.Attribute o "items" apos) [] [] cpos) (itemsI fo) := by
  refine PI.imp (pi_itemsN ho hbase hline) fun σ H Q ⟨ι, F, S, sl, hz, hs, rel, q⟩ => ?_
  refine ⟨ι, F, S, sl, hz, hs, rel, Aft.imp (Aft.bind q) fun x S1 ι1 F1 H1 ⟨s1, r1, h1⟩ u ru => ?_⟩
  split at h1
  · rename_i kvs
    split at h1
    case isFalse => exact h1.elim
    rename_i ns
    obtain ⟨a, rfl, es, ep, xs, vs, dr⟩ := Dq.dct ru
    exact ⟨a, es, ep, xs, vs, rfl, r1.sub _ _ dr.at_, dr.nm, dr.ent, dr.vals, h1 ι1 F1 H1 .refl r1 _ (it_items dr ns)⟩
  · exact h1.elim
end
end DV
set_option Elab.async false
set_option linter.all false
set_option maxRecDepth 100000
set_option maxHeartbeats 4000000
namespace DV
open PySem PySem.Spec PyProof.Rows L2
mutual
def noD : PyData → Bool
  | .dict _ => false
  | .list ds => noDs ds
  | .tuple ds => noDs ds
  | _ => true
def noDs : List PyData → Bool
  | [] => true
  | d :: ds => noD d && noDs ds
end
section
variable {K : PySem.W.Frag} {F F2 : Hp}
theorem SqT.noD {a : Addr} {xs : List V} (e : ∀ a o, F a = some o → (∀ φ, o ≠ .ext φ) → F2 a = some o) (h : SqT K F a xs) : SqT K F2 a xs := by
  rcases h with (h | ⟨o, h⟩) | h
  · exact .inl (.inl (e _ _ h fun vs q => nomatch q))
  · exact .inl (.inr ⟨o, e _ _ h fun vs q => nomatch q⟩)
  · exact .inr h
mutual
theorem Dq.noD (e : ∀ a o, F a = some o → (∀ φ, o ≠ .ext φ) → F2 a = some o) {d : PyData} {v : V} (c : DV.noD d = true) (h : Dq K F v d) : Dq K F2 v d := match h with
  | .non => .non
  | .bl _ => .bl _
  | .int _ => .int _
  | .str _ => .str _
  | .lst s q => .lst (e _ _ s fun φ z => nomatch z) (DqAll.noD e (by simpa [DV.noD] using c) q)
  | .scr s q => by simp [DV.noD] at c
  | .tup s q p => .tup (SqT.noD e s) (DqAll.noD e (by simpa [DV.noD] using c) q) fun h => let ⟨o, xs, h1, h2⟩ := p h; ⟨o, xs, e _ _ h1 (fun vs z => nomatch z), h2⟩
  | .dk s l k q => by simp [DV.noD] at c
  | .dt s l k q => by simp [DV.noD] at c
  | .dn z s a b c' v n q r => by simp [DV.noD] at c
theorem DqAll.noD (e : ∀ a o, F a = some o → (∀ φ, o ≠ .ext φ) → F2 a = some o) {ds : List PyData} {vs : List V} (c : DV.noDs ds = true) (h : DqAll K F vs ds) : DqAll K F2 vs ds := match h with
  | .nil => .nil
  | .cons a b => by
    simp only [DV.noDs, Bool.and_eq_true] at c
    exact .cons (Dq.noD e c.1 a) (DqAll.noD e c.2 b)
end
end
/-- an argument: data, or a dict as it stands -/
def datG (S : Sto) : Val → Option PyData
  | .d x => some x
  | .loc k => match S[k]? with
    | some (.gh (.dct kvs)) => some (.dict ((.none, .none) :: kvs))
    | _ => none
def datsG (S : Sto) : List Val → Option (List PyData)
  | [] => some []
  | x :: xs => match datG S x, datsG S xs with
    | some d, some ds => some (d :: ds)
    | _, _ => none
def callD (Fn : FnP) (la : DL) : DE := fun sl S => (la sl S).bind fun xs S1 => match datsG S1 xs with
  | some ds => match Fn ds with
    | .ok x => if noD x then .ok (.d x) S1 else .bad
    | .er e => if e.fs.isEmpty then .er e S1 else .bad
    | .bad => .bad
  | none => .bad
section
variable {K : PySem.W.Frag} {mg : Str → Option Value} {W : WX} {ι : Nat → Addr} {F H F' H' : Hp} {S : Sto} {la : DL}
def isDct (ι : Nat → Addr) (S : Sto) (a : Addr) : Prop := ∃ k kvs, S[k]? = some (.gh (.dct kvs)) ∧ ι k = a
open Classical in
noncomputable def lentG (ι : Nat → Addr) (S : Sto) (F H : Hp) : Hp := fun a => if F a = none then (if isDct ι S a then H a else none) else F a
open Classical in
noncomputable def backG (ι : Nat → Addr) (S : Sto) (F F' : Hp) : Hp := fun a => if isDct ι S a then F a else F' a
theorem lentG_ff : Same F (lentG ι S F H) := fun a o h => by
  unfold lentG
  rw [if_neg (by rw [h]; simp)]
  exact h
theorem lentG_sub (s : Same F H) : Same (lentG ι S F H) H := fun a o h => by
  unfold lentG at h
  split at h
  · split at h
    · exact h
    · cases h
  · exact s _ _ h
theorem lentG_own {k : Nat} {kvs : KVs} (hk : S[k]? = some (.gh (.dct kvs))) {o : HO} (s : Same F H) (h : H (ι k) = some o) : lentG ι S F H (ι k) = some o := by
  unfold lentG
  split
  · rw [if_pos ⟨k, kvs, hk, rfl⟩]; exact h
  · rename_i c
    cases e : F (ι k) with
    | none => exact absurd e c
    | some o' => rw [← h]; exact (s _ _ e).symm
theorem lentG_data (rel : Rel K ι F H S) {v : V} {x : Val} {d : PyData} (r : RV K ι F S.length v x) (e : datG S x = some d) : Dq K (lentG ι S F H) v d := by
  cases x with
  | d y =>
    simp [datG] at e
    subst e
    exact Dq.mono lentG_ff _ _ r
  | loc k =>
    obtain ⟨hk, rfl⟩ := r
    unfold datG at e
    dsimp only at e
    split at e
    · rename_i kvs ex
      cases e
      obtain ⟨f0, es, ep, xs, vs, h1⟩ := rel.obj k _ ex
      exact h1.dq lentG_ff (lentG_own ex rel.sub h1.at_)
    · cases e
theorem lentG_datas (rel : Rel K ι F H S) : ∀ {xs : List Val} {ds : List PyData} {us : List V}, datsG S xs = some ds → RVs K ι F S.length us xs → DqAll K (lentG ι S F H) us ds
  | [], ds, us, e, r => by cases r; simp [datsG] at e; subst e; exact .nil
  | x :: xs, ds, us, e, r => by
    cases r with
    | cons a b =>
      unfold datsG at e
      split at e
      · rename_i d ds' e1 e2
        cases e
        exact .cons (lentG_data rel a e1) (lentG_datas rel e2 b)
      · cases e
theorem backG_grow (rel : Rel K ι F H S) (g : Grow (lentG ι S F H) H F' H') : Grow F H (backG ι S F F') H' where
  ff := fun a o h => by
    unfold backG
    split
    · exact h
    · exact g.ff _ _ (lentG_ff _ _ h)
  hh := g.hh
  sub := fun a o h => by
    unfold backG at h
    split at h
    · exact g.hh _ _ (rel.sub _ _ h)
    · exact g.sub _ _ h
  fnew := fun a o h => by
    unfold backG at h
    split at h
    · exact .inl h
    · rename_i c
      rcases g.fnew _ _ h with q | q
      · left
        unfold lentG at q
        split at q
        · first
            | (rw [if_neg c] at q; cases q)
            | cases q
        · exact q
      · exact .inr q
theorem backG_noD (rel : Rel K ι F H S) (g : Grow (lentG ι S F H) H F' H') {v : V} {x : PyData} (c : noD x = true) (d : Dq K F' v x) : Dq K (backG ι S F F') v x := by
  refine Dq.noD (fun a o h hx => ?_) c d
  unfold backG
  split
  · rename_i q
    obtain ⟨k, kvs, hk, rfl⟩ := q
    exfalso
    obtain ⟨_, es, ep, xs, vs, h1⟩ := rel.obj k _ hk
    have := g.ff _ _ (lentG_own hk rel.sub h1.at_)
    rw [h] at this
    exact hx _ (Option.some.inj this)
  · exact h
theorem callD_ok {Fn : FnP} {n : Nat} {σ : CxSt} {H : Hp} {Q : VK} (hn : ∀ args x, (Fn args = .ok x ∨ ∃ e, Fn args = .er e) → args.length = n) (h : tE K mg W (callD Fn la) σ H Q) :
    tL K mg W la σ H fun us H1 => spP K mg n Fn (us ++ []) H1 Q (WE W σ) := by
  obtain ⟨ι, F, S, sl, hz, hs, rel, q⟩ := h
  refine ⟨ι, F, S, sl, hz, hs, rel, Aft.imp (Aft.bind q) fun xs S1 ι1 F1 H1 ⟨s1, r1, h1⟩ us rus => ?_⟩
  show spP K mg n Fn (us ++ []) H1 Q (WE W σ)
  rw [List.append_nil]
  split at h1
  · rename_i ds e2
    have d2 := lentG_datas r1 e2 rus
    split at h1
    · rename_i x ex
      split at h1
      · rename_i c
        refine ⟨lentG ι1 S1 F1 H1, ds, by rw [d2.length]; exact hn _ x (.inl ex), lentG_sub r1.sub, d2, ?_⟩
        rw [ex]
        exact fun v H' F' g dv => h1 ι1 _ H' (backG_grow r1 g).stp (r1.grow (backG_grow r1 g)) v (backG_noD r1 g c dv)
      · exact h1.elim
    · rename_i x ex
      split at h1
      · rename_i c
        refine ⟨lentG ι1 S1 F1 H1, ds, by rw [d2.length]; exact hn _ .none (.inr ⟨_, ex⟩), lentG_sub r1.sub, d2, ?_⟩
        rw [ex]
        refine fun H' F' cls d g er => h1 ι1 _ H' cls d (backG_grow r1 g).stp (r1.grow (backG_grow r1 g)) ⟨er.1, ?_⟩
        have e0 : x.fs = [] := by simpa using c
        rw [e0]
        trivial
      · exact h1.elim
    · exact h1.elim
  · exact h1.elim
end
section
variable {X : Cx} {W : WX} {e : Expr} {es : List Expr} {la : DL} {fa fb f : DE} {pos p p2 : Pos} {k : Nat} {x : Str} {ps : List Str} {tg : Expr}
theorem q_dl {Fn : FnP} {j : Nat} (G : CalP X.prog X.w X.K X.mg X.base x k ps Fn) (hr : Room j X.A) (hj : k ≤ j) (tk : L2N.Takes X W) (ha : QA X W (e :: es) la) (hg : Gl X x := by rfl) (hdb : (x == ("__debug__" : Str)) = false := by decide)
    (he : starEach (e :: es) X.env = (false, eval e X.env) :: starEach es X.env := by rfl) (hpl : (backTo pos (starEach es X.env)).any (·.1) = false := by rfl) : QE X W (.Call (.Name x p) (e :: es) [] pos) (callD Fn la) := by
  obtain ⟨ok, hm, kp, bd, ln⟩ := G
  exact PE.imp (pe_callSD ok (hr.mono hj) hg hm kp bd .nil (fun σ => L2N.passAt tk σ) ha hdb he hpl) fun σ H Q q => callD_ok ln q
end
end DV
set_option Elab.async false
set_option linter.all false
set_option maxRecDepth 100000
set_option maxHeartbeats 4000000
namespace DV
open PySem PySem.Spec PyProof.Rows L2
/-- the pairs of a list of data -/
def kvsOf : List PyData → Option KVs
  | [] => some []
  | .tuple [k, v] :: r => (match keyD8 k, kvsOf r with
    | some _, some s => some ((k, v) :: s)
    | _, _ => none)
  | _ => none
def mergeD (acc kvs : KVs) : KVs := kvs.foldl (fun acc p => match keyOf p.1 with
  | some k => putD acc p.1 k p.2
  | none => acc) acc
theorem kvsOf_eq : ∀ {ds : List PyData} {kvs : KVs}, kvsOf ds = some kvs → ds = pairsD kvs ∧ ∀ p ∈ kvs, ∃ k, keyD8 p.1 = some k
  | [], kvs, e => by simp [kvsOf] at e; subst e; exact ⟨rfl, fun p hp => absurd hp (by simp)⟩
  | d :: r, kvs, e => by
    unfold kvsOf at e
    split at e
    · rename_i h; cases h
    · rename_i k v r' h
      cases h
      split at e
      · rename_i kk s e1 e2
        cases e
        obtain ⟨h1, h2⟩ := kvsOf_eq e2
        refine ⟨by rw [h1]; rfl, fun p hp => ?_⟩
        rcases List.mem_cons.mp hp with z | z
        · rw [z]; exact ⟨kk, e1⟩
        · exact h2 p z
      · cases e
    · cases e
section
variable {X : Cx} {pins : List (Addr × Obj)} {σ : L2.St} {F H : Hp} {s : Shared}
theorem pairs_heap (I : Inv X pins σ H s) (sub : Same F H) : ∀ {kvs : KVs} {vs : List V}, DqAll X.K F vs (pairsD kvs) → (∀ p ∈ kvs, ∃ k, keyD8 p.1 = some k) →
    ∃ (ps : List Ent) (ws : List V), EntR X.K F ps ws kvs ∧ ∀ (j : Nat) (x : Ent), ps[j]? = some x → ∃ T, vs[j]? = some (.ref T) ∧ PairAt s.heap T (.ref x.2.1) x.2.2
  | [], vs, _, _ => ⟨[], [], .nil, fun j x e => by simp at e⟩
  | p :: kvs, vs, h, hk => by
    cases h with
    | @cons v vs' _ _ a b =>
      obtain ⟨ps, ws, er, hp⟩ := pairs_heap I sub b fun q hq => hk q (List.mem_cons_of_mem _ hq)
      obtain ⟨k, ek⟩ := hk p List.mem_cons_self
      obtain ⟨_, ek1, ek2⟩ := keyD8_of ek
      cases a with
      | @tup T xs _ q dd _ =>
        cases dd with
        | @cons vk _ _ _ d1 dd =>
          cases dd with
          | @cons vv _ _ _ d2 dd =>
            cases dd
            obtain ⟨its, rv, pl, _⟩ := I.tuple (SqT.mono sub q)
            cases rv with
            | @cons _ uk _ _ r1 rv =>
              cases rv with
              | @cons _ uv _ _ r2 rv =>
                cases rv
                obtain ⟨b', rfl⟩ := key_ref d1 ek
                obtain rfl : uk = Value.ref b' := r1
                refine ⟨(k, b', uv) :: ps, vv :: ws, .cons ek1 ek2 d1 r2 d2 er, fun j x e => ?_⟩
                cases j with
                | zero => simp at e; subst e; exact ⟨T, rfl, .inl pl⟩
                | succ j => exact hp j x (by simpa using e)
theorem EntR.putAll {K : PySem.W.Frag} : ∀ {ps : List Ent} {ws : List V} {kvs : KVs}, EntR K F ps ws kvs → ∀ {xs : List Ent} {vs : List V} {acc : KVs}, EntR K F xs vs acc → ∃ vs', EntR K F (storedAllH xs ps) vs' (mergeD acc kvs)
  | _, _, _, .nil, xs, vs, acc, h => ⟨vs, h⟩
  | _, _, _, .cons (p := p) h1 h2 h3 h4 h5 h6, xs, vs, acc, h => by
    obtain ⟨vs1, e1⟩ := h.put h1 h2 h3 h4 h5
    obtain ⟨vs2, e2⟩ := EntR.putAll h6 e1
    refine ⟨vs2, ?_⟩
    unfold mergeD at e2 ⊢
    rw [List.foldl_cons, h1]
    exact e2
theorem ents_is (I : Inv X pins σ H s) (sub : Same F H) : ∀ {ps : List Ent} {ws : List V} {kvs : KVs}, EntR X.K F ps ws kvs → ∀ x ∈ ps, (nestedKind X.prog X.w).is s.heap x.1 x.2.1
  | _, _, _, .nil, x, hx => absurd hx (by simp)
  | _, _, _, .cons h1 h2 h3 h4 h5 h6, x, hx => by
    rcases List.mem_cons.mp hx with z | z
    · rw [z]; exact ⟨nest_of I sub h3 rfl h1, h2⟩
    · exact ents_is I sub h6 x z
def rDictN (K : PySem.W.Frag) : List V → Hp → VK → Prop := fun xs H Q => ∃ a F vs kvs, xs = [.ref a] ∧ Same F H ∧ (SqL K H a vs ∨ PlainT H a ∧ SqT K H a vs) ∧ DqAll K F vs (pairsD kvs) ∧ (∀ p ∈ kvs, ∃ k, keyD8 p.1 = some k) ∧ kvs.length ≤ sizeLine ∧
  ∀ p es ep ys ws, H p = none → DctR K F (upd H p (DctO p es ep)) p (mergeD [] kvs) es ep ys ws → Q (.ref p) (upd H p (DctO p es ep))
theorem cr_dictN (hc : X.calm = true) (hu : X.A.units + 20 < cLine) : CallR X (.type "dict") (rDictN X.K) := by
  intro pins s σ H xs us Q I r h
  obtain ⟨a, F, vs, kvs, rfl, sub, hq, dd, hk, hl, q⟩ := h
  obtain ⟨u, rfl, rx⟩ := vals1 r
  cases rx
  obtain ⟨ps, ws, er, hp⟩ := pairs_heap I sub dd hk
  have hpl : ps.length = kvs.length := er.length
  have hvl : vs.length = kvs.length := by rw [dd.length]; simp [pairsD]
  have his := ents_is I sub er
  have hh := I.ok.hd hc
  let Ts : Nat → Addr := fun j => match vs[j]? with
    | some (.ref T) => T
    | _ => 0
  let prs : List (Value × Value) := ps.map fun x => (.ref x.2.1, x.2.2)
  have hrl : prs.length = kvs.length := by simp [prs, hpl]
  have items : ∀ {its : List Value}, Vals vs its → PairItems s.heap its.toArray Ts prs := fun {its} rv => by
    refine ⟨by rw [List.size_toArray, ← rv.length, hvl, hrl], fun j k v e => ?_⟩
    simp only [prs, List.getElem?_map, Option.map_eq_some_iff] at e
    obtain ⟨x, e1, e2⟩ := e
    cases e2
    obtain ⟨T, e3, e4⟩ := hp j x e1
    obtain ⟨u, e5, e6⟩ := rv.get e3
    obtain rfl : u = Value.ref T := e6
    have et : Ts j = T := by simp only [Ts, e3]
    rw [et]
    exact ⟨by rw [List.getElem?_toArray]; exact e5, e4⟩
  have hv : PairsHaveH (nestedKind X.prog X.w) prs.length (PairRel prs) ps := by
    refine ⟨by simp [prs], fun i key v e => ?_⟩
    have e : prs[i]? = some (key, v) := e
    simp only [prs, List.getElem?_map, Option.map_eq_some_iff] at e
    obtain ⟨x, e1, e2⟩ := e
    cases e2
    exact ⟨x.1, x.2.1, e1, rfl⟩
  have hroom : (nestedKind X.prog X.w).room X.A.in1.in1 := by show X.A.units + 1 + 1 + 8 < cLine; omega
  have stay : KeysStay (nestedKind X.prog X.w) s.heap s.heap.objs.size [] ps := fun h' kp x hx => nestedKind_stays.stays (fun b o vs n e _ => kp b o (Nat.ne_of_lt (Heap.lt_size e)) (by simp) e) (his x hx)
  have fin : ∀ h' tk, h'.DictOfH (nestedKind X.prog X.w) s.heap.objs.size (storedAllH [] ps) → (∀ b o, b ∉ ([] : List Addr) → s.heap.get? b = some o → h'.get? b = some o) → EP X pins σ Q (.ref s.heap.objs.size) { s with heap := h', toks := tk } := fun h' tk hd kp => by
    obtain ⟨vs', er'⟩ := EntR.putAll er (.nil (K := X.K) (F := F))
    have nm : (s.heap.objs.size == sysModules) = false := beq_eq_false_iff_ne.mpr (Ne.symm (Nat.ne_of_lt I.big))
    obtain ⟨es', ep', ok, rec⟩ := dct_rec (X := X) nm hd er'
    exact ⟨.ref s.heap.objs.size, _, I.laid (t' := tk) (fun b o e => kp b o (by simp) e) (Nat.le_refl _) (ok _), rfl, q _ _ _ _ _ (I.hok.fresh (Nat.le_refl _)) (rec _ upd_same)⟩
  rcases hq with hq | ⟨⟨o, xs', hpl', hdict⟩, hq⟩
  · obtain ⟨its, rv, ⟨o, n, e1, e2, e3, e4⟩, _⟩ := I.list hq
    exact call_dict_pairsH (knd := nestedKind X.prog X.w) (PairArg.list a its.toArray Ts prs) hh hroom ⟨⟨o, n, e1, e2, e3, e4⟩, items rv⟩ hv stay (by rw [hrl]; exact hl) fin
  · obtain ⟨its, rv, ⟨o', e1, e2, n, e3⟩, _⟩ := I.tuple hq
    obtain ⟨e0, _⟩ := I.hok a _ hpl'
    have e0 : s.heap.get? a = some o := e0
    rw [e1] at e0
    cases e0
    exact call_dict_pairsH (knd := nestedKind X.prog X.w) (PairArg.tuple a its.toArray Ts prs) hh hroom ⟨⟨_, n, e1, e2, hdict, e3⟩, items rv⟩ hv stay (by rw [hrl]; exact hl) fin
/-- as an owned dict -/
def dictN (f : DE) : DE := fun sl S => (f sl S).bind fun x S1 => match dat S1 x with
  | some (.list ds) => (match kvsOf ds with
    | some kvs => if kvs.length ≤ sizeLine then .ok (.loc S1.length) (S1 ++ [.gh (.dct (mergeD [] kvs))]) else .bad
    | none => .bad)
  | some (.tuple ds) => (match kvsOf ds with
    | some kvs => if kvs.length ≤ sizeLine ∧ sumlike ds = true then .ok (.loc S1.length) (S1 ++ [.gh (.dct (mergeD [] kvs))]) else .bad
    | none => .bad)
  | _ => .bad
theorem q_dictN {W : WX} {e : Expr} {f : DE} (h : PE X e (tCB (rDictN X.K) (tCons (tE X.K X.mg W f) tNil))) : QE X W e (dictN f) := by
  refine PE.imp h fun σ H Q ⟨ι, F, S, sl, hz, hs, rel, q⟩ => ?_
  refine ⟨ι, F, S, sl, hz, hs, rel, Aft.imp (Aft.bind q) fun x S1 ι1 F1 H1 ⟨s1, r1, h1⟩ u ru => ?_⟩
  split at h1
  · rename_i ds ed
    split at h1
    · rename_i kvs ek
      split at h1
      · rename_i hl
        obtain ⟨rfl, hk⟩ := kvsOf_eq ek
        obtain ⟨a, vs, rfl, q1, d1⟩ := (ru.dat r1 ed).list r1.sub
        refine ⟨a, F1, vs, kvs, rfl, r1.sub, .inl (SqL.of q1), d1, hk, hl, fun p es ep ys ws hp dr => ?_⟩
        obtain ⟨ι', st, r', e⟩ := dct_new r1 hp dr
        exact h1 ι' F1 _ st r' _ ⟨by simp, by rw [e]⟩
      · exact h1.elim
    · exact h1.elim
  · rename_i ds ed
    split at h1
    · rename_i kvs ek
      split at h1
      · rename_i hl
        obtain ⟨rfl, hk⟩ := kvsOf_eq ek
        have rt := ru.dat r1 ed
        rcases rt with q0 | ⟨_, _, _, _, e, _⟩ | ⟨_, _, _, e, _⟩
        · cases q0 with
          | @tup a xs _ q1 d1 pl =>
            refine ⟨a, F1, xs, kvs, rfl, r1.sub, .inr ⟨(pl hl.2).mono r1.sub, SqT.mono r1.sub q1⟩, d1, hk, hl.1, fun p es ep ys ws hp dr => ?_⟩
            obtain ⟨ι', st, r', e⟩ := dct_new r1 hp dr
            exact h1 ι' F1 _ st r' _ ⟨by simp, by rw [e]⟩
        · cases e
        · cases e
      · exact h1.elim
    · exact h1.elim
  · exact h1.elim
end
end DV
set_option Elab.async false
set_option linter.all false
set_option maxRecDepth 100000
set_option maxHeartbeats 4000000
namespace DV
open PySem PySem.Spec PyProof.Rows L2
section
variable {X : Cx}
/-- d[k] = v by a comprehension -/
theorem dictSet_ok {pins : List (Addr × Obj)} {σ : L2.St} {F H : Hp} {s : Shared} {D : Addr} {kvs : KVs} {key v : PyData} {k : NestedKey} {yk yv : V} {uk uv : Value} {E : Value → Shared → Prop} {Q : Unit → Shared → Prop} {Nx : Hp → Prop} (room : X.A.units + 8 < cLine) (I : Inv X pins σ H s) (sub : Same F H) (dn : DN X.K F H D kvs)
    (kd : Dq X.K F yk key) (ek : keyD8 key = some k) (vd : Dq X.K F yv v) (rk : RelV yk uk) (rv : RelV yv uv) (hl : kvs.length < sizeLine) (nx : PutN X.K F H D (putD kvs key k v) Nx) (h : ∀ s' H', Inv X pins σ H' s' → Nx H' → Q () s') :
    wpAny (model X.prog X.w) X.A (dictSet D uk uv) Q E s := by
  obtain ⟨es, ep, xs, vs, dr⟩ := dn
  obtain ⟨b, rfl⟩ := key_ref kd ek
  obtain rfl : uk = Value.ref b := rk
  obtain ⟨_, e1, e2⟩ := keyD8_of ek
  obtain ⟨vs', er⟩ := dr.ents.put e1 e2 kd rv vd
  refine wpAny_dictSet_heap (knd := nestedKind X.prog X.w) (hsz := by rw [dr.ents.length]; omega) room (key_is I sub kd ek) (dctH I sub dr).1 fun h' there sb => ?_
  obtain ⟨es', ep', ok, rec⟩ := dct_rec (X := X) dr.nm there er
  obtain ⟨o', _, _, at_, _⟩ := there
  exact h _ _ (d_write I (by rw [dr.at_]; exact True.intro) sb ⟨o', at_⟩ (ok _)) (nx _ _ _ _ (rec _ upd_same))
/-- the reading: D the new dict -/
def tDcN (K : PySem.W.Frag) (wi : TI) (g : TG) (tk tv : TE) (vs : List Nat) : TE := fun σ H Q => wi σ H fun J H1 => ∀ D, H1 D = none → (D == sysModules) = false → ∃ W : Nat → Nat → Hp → Prop, (∃ m, W 0 m (upd H1 D (DctO D #[] 0))) ∧ ∀ i m H, W i m H →
  (J.stop i H ∧ Q (.ref D) H) ∨ (J.go i H ∧ ∃ Nx : Hp → Prop, (∀ H', Nx H' → ∃ m', m' < m ∧ W (i + 1) m' H') ∧ ∀ x H', J.yld i H x H' → g x (wipe σ vs) H' fun σ2 H2 => wipe σ2 vs = wipe σ vs ∧ tk σ2 H2 fun y H4 => tv σ2 H4 fun z H5 =>
    ∃ F kvs key k d, Same F H5 ∧ DN K F H5 D kvs ∧ Dq K F y key ∧ keyD8 key = some k ∧ Dq K F z d ∧ kvs.length < sizeLine ∧ PutN K F H5 D (putD kvs key k d) Nx)
theorem pe_dcN {kx vx tg iter : Expr} {scope : Scope} {own : List (Str × Nat)} {pos : Pos} {wi : TI} {g : TG} {tk tv : TE} (hc : X.calm = true) (hN : X.N.Nodup) (hi : PI X tg iter wi) (ok : BlkOk X.N X.env.scope scope own)
    (hg : ∀ (s : Shared) (H : Hp) (C : Addr) (cl : List (Str × Addr)) (fp : List Addr), PG (X.blk s H scope (compEnvC scope cl C X.env) fp) tg g)
    (hk : ∀ (s : Shared) (H : Hp) (C : Addr) (cl : List (Str × Addr)) (fp : List Addr), PE (X.blk s H scope (compEnvC scope cl C X.env) fp) kx tk)
    (he : ∀ (s : Shared) (H : Hp) (C : Addr) (cl : List (Str × Addr)) (fp : List Addr), PE (X.blk s H scope (compEnvC scope cl C X.env) fp) vx tv) (hroom : ∀ (s : Shared) (H : Hp) (C : Addr) (cl : List (Str × Addr)) (fp : List Addr), (X.blk s H scope (compEnvC scope cl C X.env) fp).A.units + 8 < cLine) (hs : ∀ x, foldedSetIterable iter X.env x = pure x := by intro _; rfl) :
    PE X (.DictComp kx vx [⟨tg, iter, [], 0⟩] scope pos) (tDcN X.K wi g tk tv (own.map (·.2))) := by
  refine ⟨fun pins s σ H Q I h => ?_⟩
  rw [arm_eval_DictComp]
  have caught : ∀ y ∈ scope.names, y.2 = .free → ∃ c, X.env.cells.lookup y.1 = some c := fun y hy e => (ok.free y hy e).elim (fun k => I.ok.has _ (.inl k)) fun k => I.ok.has _ (.inr k)
  refine wpAny_comprehension_free rfl hs (closure_ok caught) ok.kind (fun y hy e => by rw [ok.uniq y hy, e]) (thn (hi.run pins s σ H _ I h) fun xv s1 hx => thn hx fun itv s2 h2 => ?_)
  obtain ⟨it, fp, tn, J, H2, e, I2, T, st2, f2, q⟩ := h2
  subst e
  refine wpAny_newObj_type (newEnv_comp ?_)
  -- the new dict at L
  generalize hL : s2.heap.objs.size = L
  have freeL : H2 L = none := I2.hok.fresh (Nat.le_of_eq hL)
  have nm : (L == sysModules) = false := beq_eq_false_iff_ne.mpr (hL ▸ Ne.symm (Nat.ne_of_lt I2.big))
  obtain ⟨W, ⟨m0, w0⟩, turn⟩ := q L freeL nm
  generalize es3 : ({ s2 with heap := s2.heap.push { cls := .type "dict", data := .dict #[] } } : Shared) = s3
  have hp3 : s3.heap = s2.heap.push { cls := .type "dict", data := .dict #[] } := by rw [← es3]
  have up3 : ∀ b o, s2.heap.get? b = some o → s3.heap.get? b = some o := fun b o e => by rw [hp3]; exact Heap.get?_push_of_some _ e
  have I3 : Inv X pins σ (upd H2 L (DctO L #[] 0)) s3 := by
    rw [← es3]
    refine I2.laid (t' := s2.toks) (fun b o e => Heap.get?_push_of_some _ e) (Nat.le_of_eq hL) ?_
    rw [← hL]
    exact ⟨⟨_, Heap.get?_push_size _ rfl, ⟨rfl, rfl, rfl⟩, rfl⟩, ⟨_, Heap.get?_push_size _ rfl⟩, fun h1 h2 ⟨o', z1, z2⟩ st => ⟨o', st _ z1, z2⟩⟩
  have lt2 : ∀ b ∈ fp, b < s2.heap.objs.size := fun b hb => (T.obj _ _ st2 b hb).elim fun o e => Heap.lt_size e.1
  have f3 : ∀ b ∈ fp, FpOk X pins (upd H2 L (DctO L #[] 0)) b ∧ b < s3.heap.objs.size := fun b hb => by
    have lt := lt2 b hb
    refine ⟨⟨?_, (f2 b hb).2⟩, by rw [hp3, Heap.size_push]; exact Nat.lt_succ_of_lt lt⟩
    rw [upd_ne (by rw [← hL]; exact Nat.ne_of_lt lt)]
    exact (f2 b hb).1
  have st3 : tn 0 s3.heap := T.keep _ _ _ st2 fun b _ o e => up3 b o e
  have I4 := block_start I3 ok hN f3
  have pg := hg s3 (upd H2 L (DctO L #[] 0)) s3.heap.objs.size (cellsFrom (s3.heap.objs.size + 1) scope.names (cloFrom X.env.cells scope.names [])) fp
  have pk := hk s3 (upd H2 L (DctO L #[] 0)) s3.heap.objs.size (cellsFrom (s3.heap.objs.size + 1) scope.names (cloFrom X.env.cells scope.names [])) fp
  have room := hroom s3 (upd H2 L (DctO L #[] 0)) s3.heap.objs.size (cellsFrom (s3.heap.objs.size + 1) scope.names (cloFrom X.env.cells scope.names [])) fp
  have pe := he s3 (upd H2 L (DctO L #[] 0)) s3.heap.objs.size (cellsFrom (s3.heap.objs.size + 1) scope.names (cloFrom X.env.cells scope.names [])) fp
  have away : ∀ b ∈ fp, (upd H2 L (DctO L #[] 0)) b = none := fun b hb => (f3 b hb).1.1
  show codeAny _ _ (.compStart (.DictComp kx vx [⟨tg, iter, [], 0⟩] scope pos) 0 (.ref it) (.ref L) (compEnvC scope (cellsFrom (s3.heap.objs.size + 1) scope.names (cloFrom X.env.cells scope.names [])) s3.heap.objs.size X.env)) _ { s3 with heap := pushCells (s3.heap.push { cls := .type "dict", data := .dict #[] }) scope.names }
  generalize hce : compEnvC scope (cellsFrom (s3.heap.objs.size + 1) scope.names (cloFrom X.env.cells scope.names [])) s3.heap.objs.size X.env = ce at I4 pg pk pe room ⊢
  have home : ce.locals = s3.heap.objs.size := by subst hce; rfl
  generalize eH3 : upd H2 L (DctO L #[] 0) = H3 at I3 I4 pg pk pe room w0 away f3
  generalize es4 : ({ s3 with heap := pushCells (s3.heap.push { cls := .type "dict", data := .dict #[] }) scope.names } : Shared) = s4 at I4 ⊢
  have st4 : tn 0 s4.heap := T.keep _ _ _ st3 fun b _ o e => by rw [← es4]; exact pushCells_keeps _ _ _ _ (Heap.get?_push_of_some _ e)
  have calmFp : ∀ {σ' : L2.St} {H' : Hp} {s' : Shared}, Inv (X.blk s3 H3 scope ce fp) [] σ' H' s' → (∀ b ∈ fp, H' b = none) → ∀ b ∈ fp, FpOk (X.blk s3 H3 scope ce fp) [] H' b := fun {σ' H' s'} J' hn b hb =>
    ⟨hn b hb, (J'.ok.exf b hb).1, J'.ok.exfs b hb, .inl hb, fun x c e => (J'.ok.exf b hb).2 x c e, fun p hp => absurd (show p ∈ ([] : List (Addr × Obj)) ++ [] from hp) (by simp)⟩
  refine codeAny_compStart_dict ?loop (T.self X.A 0 _ _ _ st4 ?loop)
  case loop =>
    refine compLoop_anyD (fun n s' => ∃ i H', Inv (X.blk s3 H3 scope ce fp) [] (wipe σ (own.map (·.2))) H' s' ∧ tn i s'.heap ∧ (∀ b ∈ fp, H' b = none) ∧ W i n H') ?_ m0 ⟨0, H3, I4, st4, away, w0⟩
    rintro n s5 ⟨i, H5, I5, st5, n5, w5⟩
    rcases turn i n H5 w5 with ⟨stop, qq⟩ | ⟨go, Nx, hNx, step⟩
    · refine thnF (T.done (X.blk s3 H3 scope ce fp) rfl rfl rfl hc i [] s5 _ H5 (fun _ _ => False) I5 (calmFp I5 n5) st5 stop) fun r s6 ⟨hr, I6⟩ => ?_
      subst hr
      have back : Inv X pins σ H5 s6 := I3.call' (ch := fp) I6.os I6.base I6.hok I6.bare fun b hb => ⟨(f3 b hb).1.2.2.2.1, (f3 b hb).1.2.1, (f3 b hb).1.2.2.2.2.1, (f3 b hb).1.2.2.2.2.2⟩
      have gone : H5 s3.heap.objs.size = none := by rw [← home]; exact I6.free
      obtain ⟨m, hn, _⟩ := I6.loc
      have hn : s6.heap.Ns ce.locals m := hn
      rw [home] at hn
      refine ⟨m, hn, fun h'' sb => ?_⟩
      obtain ⟨f0, f1, f2, f3, f4, f5⟩ := I3.fpOk (Nat.le_refl _) gone
      exact ⟨.ref L, H5, back.turned (t' := s6.toks) (fun b o hb e => (sb.2 b hb).trans e) f0 f1 f3 f4 f5, rfl, qq⟩
    · refine thnF (T.item (X.blk s3 H3 scope ce fp) rfl rfl rfl hc i [] s5 _ H5 (fun _ _ => False) I5 (calmFp I5 n5) st5 go) fun r s6 ⟨u, hr, h6⟩ => ?_
      subst hr
      refine thnF h6 fun _ s7 ⟨x, H7, I7, r7, y7, st7, n7⟩ => ?_
      have pinned := I7.pinned (calmFp I7 n7) (T.obj _ _ st7)
      refine thnF (pg.run _ s7 _ H7 x u _ pinned r7 (step x H7 y7)) fun _ s8 ⟨σ8, H8, I8, hw8, q8⟩ => ?_
      refine thnF ((pts_nil (X := X.blk s3 H3 scope ce fp)).run _ s8 σ8 H8 (fun b H9 => b = true ∧ tk σ8 H9 _) I8 ⟨rfl, q8⟩) fun b s9 ⟨H9, I9, eb, q9⟩ => ?_
      have on : ∀ {s' : Shared} {H' : Hp}, Inv (X.blk s3 H3 scope ce fp) ([] ++ pinsAt fp s7.heap) σ8 H' s' → Nx H' → ∃ m, m < n ∧ ∃ i H', Inv (X.blk s3 H3 scope ce fp) [] (wipe σ (own.map (·.2))) H' s' ∧ tn i s'.heap ∧ (∀ b ∈ fp, H' b = none) ∧ W i m H' := fun {s' H'} J' nx => by
        obtain ⟨m', lt, w'⟩ := hNx H' nx
        have still : ∀ b ∈ fp, ∀ o, s7.heap.get? b = some o → s'.heap.get? b = some o ∧ H' b = none := fun b hb o e =>
          let z := J'.pin (b, o) (List.mem_append_right _ (List.mem_append_right _ (mem_pinsAt hb e)))
          ⟨z.1, z.2.1⟩
        refine ⟨m', lt, i + 1, H', (J'.unpinned (pins := [])).weak (by rw [← hw8, wipe_length]) (fun j v e => ?_), T.keep _ _ _ st7 fun b hb o e => (still b hb o e).1, fun b hb => ?_, w'⟩
        · rw [← hw8] at e
          exact (wipe_some e).1
        · exact (T.obj _ _ st7 b hb).elim fun o e => (still b hb o e.1).2
      subst eb
      simp only [if_true]
      refine thnF (pk.run _ s9 σ8 H9 _ I9 q9) fun key s10 ⟨yk, H10, I10, r10, q10⟩ => ?_
      refine thnF (pe.run _ s10 σ8 H10 _ I10 q10) fun z s11 ⟨yv, H11, I11, r11, F, kvs, kd, nk, vd, sub, dn, ekd, enk, evd, hz, nx⟩ => ?_
      exact dictSet_ok (X := X.blk s3 H3 scope ce fp) room I11 sub dn ekd enk evd r10 r11 hz nx fun s12 H12 I12 got => on I12 got
end
end DV
set_option Elab.async false
set_option linter.all false
set_option maxRecDepth 100000
set_option maxHeartbeats 4000000
namespace DV
open PySem PySem.Spec PyProof.Rows L2
/-- one more entry -/
def dcKV (kvs : KVs) : Val → Val → Option KVs
  | .d key, .d z => match keyD8 key with
    | some k => if kvs.length < sizeLine then some (putD kvs key k z) else none
    | none => none
  | _, _ => none
theorem dcKV_eq {kvs kvs2 : KVs} {x y : Val} (h : dcKV kvs x y = some kvs2) : ∃ key z k, x = .d key ∧ y = .d z ∧ keyD8 key = some k ∧ kvs.length < sizeLine ∧ kvs2 = putD kvs key k z := by
  unfold dcKV at h
  split at h
  · split at h
    · split at h
      · cases h; exact ⟨_, _, _, rfl, rfl, by assumption, by assumption, rfl⟩
      · cases h
    · cases h
  · cases h
def dcEnd (kvs : KVs) (S2 : Sto) : R Val := .ok (.loc S2.length) (S2 ++ [.gh (.dct kvs)])
def dcGo (tg : Tg) (fk fv : DE) (sl : Sl) : KVs → List PyData → Sto → R KVs
  | kvs, [], S => .ok kvs S
  | kvs, d :: ds, S => match setT tg d sl with
    | none => .bad
    | some sl' => nb (fk sl' S) fun x S1 => nb (fv sl' S1) fun y S2 => match dcKV kvs x y with
      | some kvs2 => dcGo tg fk fv sl kvs2 ds S2
      | none => .bad
def dcE (own : List Nat) (it : IT) (tg : Tg) (fk fv : DE) : DE := fun sl S => (it sl S).bind fun ds S1 => (dcGo tg fk fv (wipeS sl own) [] ds S1).bind dcEnd
section
variable {K : PySem.W.Frag} {mg : Str → Option Value} {ι ι' : Nat → Addr} {F F' G H' : Hp} {S S' : Sto} {D : Addr} {o : HO} {n : Nat}
theorem Rel.hideD (rel : Rel K ι F H' S) (f0 : F D = none) (hn : ∀ k, k < S.length → ι k ≠ D) {es : Array DictEntry} {ep : Nat} (hDl : H' D = some (DctO D es ep)) : Rel K ι F (hid H' D) S where
  sub := fun a u h => by
    rw [hid_ne (ne_of_none h f0)]
    exact rel.sub _ _ h
  inj := rel.inj
  obj := fun k u e => by
    have h := rel.obj k u e
    have hk := (List.getElem?_eq_some_iff.mp e).1
    cases u with
    | frz x => exact h
    | lst xs =>
      obtain ⟨h0, vs, h1, h2⟩ := h
      exact ⟨h0, vs, by rw [hid_ne (hn k hk)]; exact h1, h2⟩
    | gh x =>
      obtain ⟨h0, h2⟩ := h
      exact ⟨h0, h2.butD (hn k hk) hDl fun b o hb e => by rw [hid_ne hb]; exact e⟩
end
section
variable {X : Cx} {W : WX} {pos : Pos}
theorem dc_ok {K : PySem.W.Frag} {mg : Str → Option Value} {W : WX} {own : List Nat} {tg : Tg} {fk fv : DE} {it : IT} (hx : ∀ i ∈ tg.ix, i ∈ own) {σ : CxSt} {H : Hp} {Q : VK} (h : tE K mg W (dcE own it tg fk fv) σ H Q) :
    tDcN K (tI K mg W it) (tg.g K) (tE K mg W0 fk) (tE K mg W0 fv) own σ H Q := by
  obtain ⟨ι, F, S, sl, hz, hs, rel, q⟩ := h
  refine ⟨ι, F, S, sl, hz, hs, rel, Aft.imp (Aft.bind q) fun items S1 ι1 F1 H1 ⟨s1, r1, h1⟩ J hJ D hD nm => ?_⟩
  have hs1 := hs.stp s1
  have hzw : (wipeS sl own).length ≤ (L2.wipe σ own).length := by rw [wipeS_length, wipe_length]; exact hz
  let P : Val → Sto → (Nat → Addr) → Hp → Hp → Prop := fun x S' ι' F' H' => ∀ u, RV K ι' F' S'.length u x → Q u H'
  refine ⟨fun i m H => ∃ (ι : Nat → Addr) (F G : Hp) (S : Sto) (kvs : KVs) (es : Array DictEntry) (ep : Nat), m = items.length - i ∧ i ≤ items.length ∧ H = upd G D (DctO D es ep) ∧ G D = none ∧ Rel K ι F G S ∧ Stp ι1 F1 H1 S1.length ι F G S.length ∧ (∃ xs vs, DctR K F (upd G D (DctO D es ep)) D kvs es ep xs vs) ∧
    Aft K mg W σ ι F G S.length ((dcGo tg fk fv (wipeS sl own) kvs (items.drop i) S).bind dcEnd) P, ⟨items.length, ι1, F1, H1, S1, [], #[], 0, rfl, Nat.zero_le _, rfl, hD, r1, .refl, ⟨[], [], ⟨nm, upd_same, rfl, rfl, fun x hx => absurd hx (by simp), .nil, List.nodup_nil, .nil, .nil⟩⟩, by rw [List.drop_zero]; exact h1⟩, ?_⟩
  rintro i m _ ⟨ι, F, G, S, kvs, es, ep, rfl, hi, rfl, hG, rel, st, ⟨xs, vs, dr⟩, af⟩
  have relA : Rel K ι F (upd G D (DctO D es ep)) S := rel.beside hG
  by_cases hlt : i < items.length
  · refine .inr ⟨hJ.go i F _ hlt st.ff relA.sub, fun H => ∃ m', m' < items.length - i ∧ ∃ (ι : Nat → Addr) (F G : Hp) (S : Sto) (kvs : KVs) (es : Array DictEntry) (ep : Nat), m' = items.length - (i + 1) ∧ i + 1 ≤ items.length ∧ H = upd G D (DctO D es ep) ∧ G D = none ∧ Rel K ι F G S ∧ Stp ι1 F1 H1 S1.length ι F G S.length ∧ (∃ xs vs, DctR K F (upd G D (DctO D es ep)) D kvs es ep xs vs) ∧
      Aft K mg W σ ι F G S.length ((dcGo tg fk fv (wipeS sl own) kvs (items.drop (i + 1)) S).bind dcEnd) P, fun H' h => h, fun x H2 hy => ?_⟩
    obtain ⟨d, F2, ed, g2, dx⟩ := hJ.yld i F _ x H2 hlt st.ff relA.sub hy
    have edr : items.drop i = d :: items.drop (i + 1) := by
      rw [List.drop_eq_getElem_cons hlt]
      rw [List.getElem?_eq_getElem hlt] at ed
      rw [Option.some.inj ed]
    rw [edr] at af
    unfold dcGo at af
    cases es' : setT tg d (wipeS sl own) with
    | none => rw [es'] at af; exact af.elim
    | some sl' =>
      rw [es'] at af
      dsimp only at af
      have rel2 : Rel K ι F2 H2 S := relA.grow g2
      have stA : Stp ι F (upd G D (DctO D es ep)) S.length ι F2 H2 S.length := g2.stp
      have hs2 : SlR K ι F2 S.length (L2.wipe σ own) (wipeS sl own) := ((hs1.stp st).wipe own).stp stA
      refine Tg.ok es' dx g2.sub hs2 hzw fun σ2 h2 l2 l3 w2 => ⟨by rw [w2 own hx, wipe_wipe], ?_⟩
      have hz2 : sl'.length ≤ σ2.length := by rw [l2, l3]; exact hzw
      obtain ⟨xk, S2, ek, af⟩ : ∃ x S2, fk sl' S = .ok x S2 ∧ Aft K mg W σ ι F G S.length ((nb (fv sl' S2) fun y S3 => match dcKV kvs x y with
          | some kvs2 => dcGo tg fk fv (wipeS sl own) kvs2 (items.drop (i + 1)) S3
          | none => .bad).bind dcEnd) P := by
        cases e : fk sl' S with
        | ok x S2 => rw [e] at af; exact ⟨x, S2, rfl, af⟩
        | er x S2 => rw [e] at af; exact af.elim
        | bad => rw [e] at af; exact af.elim
      refine ⟨ι, F2, S, sl', hz2, h2, rel2, ?_⟩
      rw [ek]
      intro ι3 F3 H3 st3 rel3 uk ruk
      obtain ⟨xv, S3, ev, af⟩ : ∃ y S3, fv sl' S2 = .ok y S3 ∧ Aft K mg W σ ι F G S.length ((match dcKV kvs xk y with
          | some kvs2 => dcGo tg fk fv (wipeS sl own) kvs2 (items.drop (i + 1)) S3
          | none => .bad : R KVs).bind dcEnd) P := by
        cases e : fv sl' S2 with
        | ok x S3 => rw [e] at af; exact ⟨x, S3, rfl, af⟩
        | er x S3 => rw [e] at af; exact af.elim
        | bad => rw [e] at af; exact af.elim
      refine ⟨ι3, F3, S2, sl', hz2, h2.stp st3, rel3, ?_⟩
      rw [ev]
      intro ι4 F4 H4 st4 rel4 uv ruv
      split at af
      · rename_i kvs2 e2
        obtain ⟨key, z, k, rfl, rfl, ekk, hsz, rfl⟩ := dcKV_eq e2
        have stC := (stA.trans st3).trans st4
        obtain ⟨stH, hDd, f0, nD⟩ := Stp.hide rel hG stC
        have dr4 : DctR K F4 H4 D kvs es ep xs vs := dr.ext stC.ff (hDd.trans dr.at_.symm)
        refine ⟨F4, kvs, key, k, z, rel4.sub, ⟨es, ep, xs, vs, dr4⟩, Dq.mono st4.ff _ _ ruk, ekk, ruv, hsz, fun es2 ep2 xs2 vs2 dn => ?_⟩
        refine ⟨items.length - (i + 1), by omega, ι4, F4, hid H4 D, S3, putD kvs key k z, es2, ep2, rfl, by omega, upd_hid.symm, hid_self, rel4.hideD f0 nD hDd, st.trans stH, ⟨xs2, vs2, by rw [upd_hid]; exact dn⟩, Aft.stp af stH⟩
      · exact af.elim
  · have hie : i = items.length := by omega
    subst hie
    refine .inl ⟨hJ.stop _ F _ (Nat.le_refl _) st.ff relA.sub, ?_⟩
    rw [List.drop_length] at af
    simp only [dcGo, R.bind] at af
    obtain ⟨ι', s', r', e'⟩ := dct_new rel hG dr
    exact af ι' F _ s' r' _ ⟨by simp, by rw [e']⟩
theorem q_dc {kx vx tg iter : Expr} {scope : Scope} {own : List (Str × Nat)} {it : IT} {t : Tg} {fk fv : DE} (hc : X.calm = true) (hN : X.N.Nodup) (hi : QI X W tg iter it) (ok : BlkOk X.N X.env.scope scope own)
    (hx : ∀ i ∈ t.ix, i ∈ own.map (·.2)) (hg : InBlk X scope fun Y => PG Y tg (t.g X.K)) (hk : InBlk X scope fun Y => QE Y W0 kx fk) (he : InBlk X scope fun Y => QE Y W0 vx fv)
    (hroom : InBlk X scope fun Y => Y.A.units + 8 < cLine) (hs : ∀ x, foldedSetIterable iter X.env x = pure x := by intro _; rfl) :
    QE X W (.DictComp kx vx [⟨tg, iter, [], 0⟩] scope pos) (dcE (own.map (·.2)) it t fk fv) :=
  PE.imp (pe_dcN (tk := tE X.K X.mg W0 fk) (tv := tE X.K X.mg W0 fv) hc hN hi ok hg hk he hroom hs) fun σ H Q q => dc_ok hx q
end
end DV
set_option Elab.async false
set_option linter.all false
set_option maxRecDepth 100000
set_option maxHeartbeats 4000000
namespace DV
open PySem PySem.Spec PyProof.Rows L2
abbrev FnN := List PyData → Option KVs
def endN : R Val → Option KVs
  | .ok x S => (dctAt S x).map (·.2)
  | _ => none
def runN (n m : Nat) (g : DE) : FnN := fun args => if args.length = m then endN (g (slots n (args.map .d)) []) else none
theorem runN_len {n m : Nat} {g : DE} {args : List PyData} {kvs : KVs} (h : runN n m g args = some kvs) : args.length = m := by
  unfold runN at h
  by_cases c : args.length = m
  · exact c
  · rw [if_neg c] at h; cases h
/-- the promise of a def that hands back a new dict -/
def spN (K : PySem.W.Frag) (n : Nat) (Fn : FnN) : Sp := fun vs H Q _ => ∃ (F : Hp) (args : List PyData) (kvs : KVs), vs.length = n ∧ Same F H ∧ DqAll K F vs args ∧ Fn args = some kvs ∧
  ∀ p F' H', Grow F H F' H' → H p = none → F' p = none → DN K F' H' p kvs → Q (.ref p) H'
section
variable {P : Program} {w : World} {K : PySem.W.Frag} {mg : Str → Option Value} {base : Heap}
theorem fn_okN {x qual : Str} {st : Stmt} {e : Expr} {pos : Pos} {f : Addr} {fd : FuncData} {N ps : List Str} {k : Nat} {g : DE} (F : FunD K x qual (defArgs st) (defBody st) (defScope st) [] [] f fd) (S : FnScope N ps (defScope st)) (hbody : defBody st = [.Return (some e) pos])
    (hb : ∀ (cdv : Value) (A : Around) (outer : List Env) (s : Shared) (H : Hp) (E : XK), Room k (A.deeper (envOfC qual (defScope st) s.heap.objs.size f cdv)) →
      QE (cxOf (L2N.CX P w) P w K mg base N qual (defScope st) f cdv A outer s H E) (WE0 E) e g) :
    FnOk P w K mg base (L2N.CX P w) (k + 1) f fd ps (spN K ps.length (runN N.length ps.length g)) := by
  refine F.ok S (fun vs H Q E h => ?_) (fun cdv A outer s H vs Q E hr h => ⟨_, by rw [hbody]; exact pss_one (ps_ret (hb cdv A outer s H E hr)), ?_⟩)
  · obtain ⟨_, _, _, h, _⟩ := h; exact h
  · obtain ⟨F, args, kvs, hl, sub, da, hf, h⟩ := h
    have rv : RVs K (fun _ => 0) F 0 vs (args.map .d) := RVs.of_all da
    refine ⟨fun _ => 0, F, [], _, slots_len (by rw [rv.length]), slots_ok rv, ⟨sub, fun i j hi => absurd hi (Nat.not_lt_zero i), fun k o e => by simp at e⟩, ?_⟩
    unfold runN at hf
    rw [if_pos (by rw [← da.length]; exact hl)] at hf
    unfold endN at hf
    cases eg : g (slots N.length (args.map .d)) [] with
    | ok x S' =>
      rw [eg] at hf
      intro ι' F' H' st r v rv
      simp only [Option.map_eq_some_iff] at hf
      obtain ⟨⟨k, kvs'⟩, e1, rfl⟩ := hf
      obtain ⟨rfl, e2⟩ := dctAt_eq e1
      obtain ⟨hk, rfl⟩ := rv
      obtain ⟨f0, dn⟩ := r.obj _ _ e2
      exact h _ F' H' (st.grow0 r.sub) (st.new k (Nat.zero_le _) hk) f0 dn
    | er e S' => rw [eg] at hf; cases hf
    | bad => rw [eg] at hf; cases hf
end
def callN (Fn : FnN) (la : DL) : DE := fun sl S => (la sl S).bind fun xs S1 => match frzL S1 xs with
  | some (ds, S2) => match Fn ds with
    | some kvs => .ok (.loc S2.length) (S2 ++ [.gh (.dct kvs)])
    | none => .bad
  | none => .bad
section
variable {K : PySem.W.Frag} {ι : Nat → Addr} {F H F' H' : Hp} {S : Sto}
/-- a dict that a call has made gets a place -/
theorem dct_came {p : Addr} {kvs : KVs} (rel : Rel K ι F H S) (g : Grow F H F' H') (hp : H p = none) (fp : F' p = none) (dn : DN K F' H' p kvs) :
    ∃ ι', Stp ι F H S.length ι' F' H' (S ++ [Ob.gh (.dct kvs)]).length ∧ Rel K ι' F' H' (S ++ [.gh (.dct kvs)]) ∧ ι' S.length = p := by
  have st0 : Stp ι F' H S.length ι F' H' S.length := ⟨Nat.le_refl _, fun _ _ => rfl, Same.refl _, fun a o h _ => g.hh a o h, fun a o h => ⟨o, g.hh a o h⟩, fun _ h1 h2 => absurd (Nat.lt_of_le_of_lt h1 h2) (Nat.lt_irrefl _), fun a o h => .inl h⟩
  have ne : ∀ k, k < S.length → ι k ≠ p := fun k hk e => by
    obtain ⟨o, eo⟩ : ∃ o, S[k]? = some o := ⟨_, List.getElem?_eq_getElem hk⟩
    have := rel.obj k o eo
    cases o with
    | lst ys => obtain ⟨_, vs, g1, _⟩ := this; rw [e, hp] at g1; cases g1
    | frz x =>
      obtain ⟨vs, g1, _⟩ := this
      have := rel.sub _ _ g1
      rw [e, hp] at this
      cases this
    | gh x => obtain ⟨_, g0⟩ := this; obtain ⟨ps, g1, _⟩ := g0.at_; rw [e, hp] at g1; cases g1
  obtain ⟨ι', s', r', e'⟩ := place_new (g := .dct kvs) (rel.grow g) st0 hp fp dn ne
  exact ⟨ι', ⟨s'.le, s'.ag, g.ff, s'.out, s'.dom, s'.new, fun a o h => (g.fnew a o h).elim .inl fun q => .inr (.inl q)⟩, r', e'⟩
end
section
variable {X : Cx} {W : WX} {e : Expr} {es : List Expr} {la : DL} {pos p : Pos} {k : Nat} {f : Addr} {fd : FuncData} {ps : List Str} {x : Str}
theorem callN_ok {K : PySem.W.Frag} {mg : Str → Option Value} {W : WX} {Fn : FnN} {n : Nat} {σ : CxSt} {H : Hp} {Q : VK} (hn : ∀ args kvs, Fn args = some kvs → args.length = n) (h : tE K mg W (callN Fn la) σ H Q) :
    tL K mg W la σ H fun us H1 => spN K n Fn (us ++ []) H1 Q (WE W σ) := by
  obtain ⟨ι, F, S, sl, hz, hs, rel, q⟩ := h
  refine ⟨ι, F, S, sl, hz, hs, rel, Aft.imp (Aft.bind q) fun xs S1 ι1 F1 H1 ⟨s1, r1, h1⟩ us rus => ?_⟩
  show spN K n Fn (us ++ []) H1 Q (WE W σ)
  rw [List.append_nil]
  split at h1
  · rename_i ds S2 e2
    obtain ⟨F2, g2, d2⟩ := frzL_ok e2 r1 rus
    split at h1
    · rename_i kvs ex
      refine ⟨F2, ds, kvs, by rw [d2.length]; exact hn _ _ ex, g2.2.2.sub, d2, ex, fun p F' H' g hp fp dn => ?_⟩
      obtain ⟨ι', s', r', e'⟩ := dct_came g2.2.2 g hp fp dn
      exact h1 ι' F' H' (g2.2.1.trans s') r' _ ⟨by simp, by rw [e']⟩
    · exact h1.elim
  · exact h1.elim
theorem q_callN {Fn : FnN} (G : FnOk X.prog X.w X.K X.mg X.base (L2N.CX X.prog X.w) k f fd ps (spN X.K ps.length Fn)) (hr : Room k X.A) (hg : Gl X x) (hm : X.mg x = some (.ref f)) (hk : PySem.W.keepIn X.K (.ref f) = true) (hb : Binds X.K fd ps [])
    (tk : L2N.Takes X W) (hn : ∀ args kvs, Fn args = some kvs → args.length = ps.length) (ha : QA X W (e :: es) la) (hdb : (x == ("__debug__" : Str)) = false := by decide) (he : starEach (e :: es) X.env = (false, eval e X.env) :: starEach es X.env := by rfl) (hpl : (backTo pos (starEach es X.env)).any (·.1) = false := by rfl) :
    QE X W (.Call (.Name x p) (e :: es) [] pos) (callN Fn la) :=
  PE.imp (pe_callSD G hr hg hm hk hb .nil (fun σ => L2N.passAt tk σ) ha hdb he hpl) fun σ H Q q => callN_ok hn q
end
end DV
set_option Elab.async false
set_option linter.all false
set_option maxRecDepth 100000
set_option maxHeartbeats 4000000
namespace DV
open PySem PySem.Spec PyProof.Rows L2
/-- the data of a list, owned or given -/
def lstD (S : Sto) : Val → Option (List PyData)
  | .d (.list ds) => some ds
  | .loc k => match S[k]? with
    | some (.lst xs) => allD xs
    | some (.frz ds) => some ds
    | _ => none
  | _ => none
theorem lstD_ok {K : PySem.W.Frag} {ι : Nat → Addr} {F H : Hp} {S : Sto} {v : V} {x : Val} {ds : List PyData} (rel : Rel K ι F H S) (r : RV K ι F S.length v x) (e : lstD S x = some ds) : ∃ a vs, v = .ref a ∧ SqL K H a vs ∧ DqAll K F vs ds := by
  unfold lstD at e
  split at e
  · cases e
    cases r with
    | lst q dd => exact ⟨_, _, rfl, SqL.of (rel.sub _ _ q), dd⟩
  · obtain ⟨hk, rfl⟩ := r
    split at e
    · rename_i xs e2
      obtain ⟨_, vs, h1, h2⟩ := rel.obj _ _ e2
      exact ⟨_, _, rfl, SqL.of h1, h2.all e⟩
    · rename_i ds' e2
      cases e
      obtain ⟨vs, h1, h2⟩ := rel.obj _ _ e2
      exact ⟨_, _, rfl, SqL.of (rel.sub _ _ h1), h2⟩
    · cases e
  · cases e
/-- a method that only reads its list -/
def rdE (m : List PyData → PyData → Option PyData) (fo : DE) (la : DL) : DE := fun sl S => (fo sl S).bind fun x S1 => match lstD S1 x with
  | none => .bad
  | some _ => (la sl S1).bind fun ys S2 => match lstD S2 x, ys with
    | some ds, [.d y] => okD (m ds y) S2
    | _, _ => .bad
def RdD (r : PySem.W.Frag → V → List V → Hp → VK → Prop) (m : List PyData → PyData → Option PyData) : Prop :=
  ∀ (K : PySem.W.Frag) (F H : Hp) (a : Addr) (vs : List V) (u : V) (ds : List PyData) (y z : PyData) (Q : VK), m ds y = some z → Same F H → SqL K H a vs → DqAll K F vs ds → Dq K F u y → (∀ v, Dq K F v z → Q v H) → r K (.ref a) [u] H Q
section
variable {X : Cx} {W : WX} {e o : Expr} {fo : DE} {la : DL} {apos cpos : Pos}
theorem rd_ok {K : PySem.W.Frag} {mg : Str → Option Value} {r : PySem.W.Frag → V → List V → Hp → VK → Prop} {m : List PyData → PyData → Option PyData} (hm : RdD r m) {σ : CxSt} {H : Hp} {Q : VK} (h : tE K mg W (rdE m fo la) σ H Q) :
    tBM K "list" (r K) (tE K mg W fo) (tL K mg W la) σ H Q := by
  obtain ⟨ι, F, S, sl, hz, hs, rel, q⟩ := h
  refine ⟨ι, F, S, sl, hz, hs, rel, Aft.imp (Aft.bind q) fun x S1 ι1 F1 H1 ⟨s1, r1, h1⟩ u ru => ?_⟩
  split at h1
  · exact h1.elim
  · rename_i ds0 e0
    obtain ⟨a, vs, rfl, sq, _⟩ := lstD_ok r1 ru e0
    refine ⟨.inl ⟨rfl, vs, sq⟩, ι1, F1, S1, sl, hz, hs.stp s1, r1, Aft.imp h1.bind fun ys S2 ι2 F2 H2 ⟨s2, r2, h2⟩ us rus => ?_⟩
    split at h2
    · rename_i ds y e2 _
      obtain ⟨w, rfl, rw'⟩ := rus.one
      obtain ⟨a', vs', ea, sq', dd⟩ := lstD_ok r2 (ru.stp s2) e2
      cases ea
      obtain ⟨z, ez, k⟩ := okD_ok h2 r2
      exact hm K F2 H2 _ _ _ ds y z Q ez r2.sub sq' dd rw' fun v dv => k v dv
    · exact h2.elim
theorem q_rd {id : String} {name : Str} {r : PySem.W.Frag → V → List V → Hp → VK → Prop} {m : List PyData → PyData → Option PyData} (hm : RdD r m) (h : PE X e (tBM X.K "list" (r X.K) (tE X.K X.mg W fo) (tL X.K X.mg W la))) : QE X W e (rdE m fo la) := PE.imp h fun σ H Q q => rd_ok hm q
end
theorem ints_V {K : PySem.W.Frag} {F : Hp} : ∀ {vs : List V} {ns : List Int}, DqAll K F vs (ns.map .int) → vs = ns.map V.int
  | [], [], _ => rfl
  | [], _ :: _, h => by cases h
  | _ :: _, [], h => by cases h
  | v :: vs, n :: ns, h => by
    cases h with
    | cons a b =>
      cases a
      rw [ints_V b]
      rfl
def cntM (ds : List PyData) (y : PyData) : Option PyData := match intsOf ds, y with
  | some ns, .int k => some (.int (ns.count k : Nat))
  | _, _ => none
theorem m_cnt : RdD rCntI cntM := fun K F H a vs u ds y z Q e sub sq dd dy k => by
  unfold cntM at e
  split at e
  · rename_i ns i e1
    cases e
    rw [intsOf_eq e1] at dd
    rw [ints_V dd] at sq
    cases dy
    exact ⟨a, ns, i, rfl, rfl, sq, k _ (.int _)⟩
  · cases e
def idxM (ds : List PyData) (y : PyData) : Option PyData := match intsOf ds, y with
  | some ns, .int k => if ns.idxOf k < ns.length then some (.int (ns.idxOf k : Nat)) else none
  | _, _ => none
theorem m_idx : RdD rIndex idxM := fun K F H a vs u ds y z Q e sub sq dd dy k => by
  unfold idxM at e
  split at e
  · rename_i ns i e1
    split at e
    · rename_i hl
      cases e
      rw [intsOf_eq e1] at dd
      rw [ints_V dd] at sq
      cases dy
      refine ⟨a, ns.map V.int, .int i, ns.idxOf i, .int i, rfl, rfl, sq, rfl, ?_, ?_, ?_, fun m z' hm hz => ?_, k _ (.int _)⟩
      · rw [List.all_eq_true]
        intro v hv
        obtain ⟨n, _, rfl⟩ := List.mem_map.mp hv
        rfl
      · rw [List.getElem?_map, List.getElem?_eq_getElem hl, List.getElem_idxOf hl]
        rfl
      · show (i == i) = true
        exact beq_self_eq_true i
      · rw [List.getElem?_map] at hz
        obtain ⟨n, hn, rfl⟩ := Option.map_eq_some_iff.mp hz
        show (n == i) = false
        have hml : m < ns.length := by omega
        rw [List.getElem?_eq_getElem hml] at hn
        cases hn
        have := List.not_of_lt_findIdx (p := (· == i)) (xs := ns) hm
        exact Bool.eq_false_iff.mpr (by simpa using this)
    · cases e
  · cases e
end DV
set_option Elab.async false
set_option linter.all false
set_option maxRecDepth 100000
set_option maxHeartbeats 4000000
namespace DV
open PySem PySem.Spec PyProof.Rows L2
abbrev KVi := List (Int × Int)
def dciAt (S : Sto) : Val → Option (Nat × KVi)
  | .loc k => match S[k]? with
    | some (.gh (.dci kvs)) => some (k, kvs)
    | _ => none
  | _ => none
theorem dciAt_eq {S : Sto} {x : Val} {k : Nat} {kvs : KVi} (h : dciAt S x = some (k, kvs)) : x = .loc k ∧ S[k]? = some (.gh (.dci kvs)) := by
  unfold dciAt at h
  split at h
  · split at h
    · cases h; exact ⟨rfl, by assumption⟩
    · cases h
  · cases h
def valI : KVi → Int → Option Int
  | [], _ => none
  | p :: r, i => if p.1 = i then some p.2 else valI r i
def anyI : KVi → Int → Bool
  | [], _ => false
  | p :: r, i => if p.1 = i then true else anyI r i
def putI (kvs : KVi) (i v : Int) : KVi := if anyI kvs i = true then kvs.map (fun p => if p.1 = i then (p.1, v) else p) else kvs ++ [(i, v)]
abbrev upI (kvs : KVi) : List (L2.Key × V) := kvs.map fun p => (.inl p.1, .int p.2)
theorem valI_up : ∀ (kvs : KVi) (i : Int), valV (upI kvs) (.inl i) = (valI kvs i).map V.int
  | [], i => rfl
  | p :: r, i => by
    unfold valI
    by_cases h : p.1 = i
    · rw [if_pos h]
      subst h
      exact valV_pos rfl
    · rw [if_neg h]
      show valV ((Sum.inl p.1, V.int p.2) :: upI r) (.inl i) = _
      rw [valV_neg (fun q => h (Sum.inl.inj q)), valI_up r i]
theorem anyI_up : ∀ (kvs : KVi) (i : Int), ((upI kvs).any fun kv => decide (kv.1 = (Sum.inl i : L2.Key))) = anyI kvs i
  | [], i => rfl
  | p :: r, i => by
    unfold anyI
    have ih := anyI_up r i
    by_cases h : p.1 = i
    · rw [if_pos h]
      subst h
      simp
    · rw [if_neg h, ← ih]
      have : ¬ (Sum.inl p.1 : L2.Key) = Sum.inl i := fun q => h (Sum.inl.inj q)
      simp [this]
theorem putI_up (kvs : KVi) (i v : Int) : putK (upI kvs) (.inl i) (.int v) = upI (putI kvs i v) := by
  unfold putK putI
  rw [anyI_up]
  by_cases h : anyI kvs i = true
  · rw [if_pos h, if_pos h]
    unfold upI
    rw [List.map_map, List.map_map]
    refine List.map_congr_left fun p _ => ?_
    show (if (Sum.inl p.1 : L2.Key) = Sum.inl i then ((Sum.inl p.1 : L2.Key), V.int v) else (Sum.inl p.1, V.int p.2)) = _
    by_cases e : p.1 = i
    · rw [if_pos (by rw [e])]
      simp [e]
    · rw [if_neg fun q => e (Sum.inl.inj q)]
      simp [e]
  · rw [if_neg h, if_neg h]
    unfold upI
    simp
section
variable {K : PySem.W.Frag} {ι : Nat → Addr} {F H : Hp} {S : Sto}
theorem dci_set {k : Nat} {kvs kvs2 : KVi} (rel : Rel K ι F H S) (e : S[k]? = some (.gh (.dci kvs))) :
    Stp ι F H S.length ι F (upd H (ι k) (dciO kvs2)) (S.set k (.gh (.dci kvs2))).length ∧ Rel K ι F (upd H (ι k) (dciO kvs2)) (S.set k (.gh (.dci kvs2))) := by
  have hk : k < S.length := (List.getElem?_eq_some_iff.mp e).1
  obtain ⟨f0, h0⟩ := rel.obj k _ e
  rw [List.length_set]
  refine ⟨⟨Nat.le_refl _, fun _ _ => rfl, Same.refl _, fun a o h hn => ?_, fun a o h => ?_, fun _ h1 h2 => absurd (Nat.lt_of_le_of_lt h1 h2) (Nat.lt_irrefl _), fun a o h => .inl h⟩, fun a o h => ?_, fun i j hi hj => rel.inj i j (by simpa using hi) (by simpa using hj), fun j o ej => ?_⟩
  · rw [upd_ne (Ne.symm (hn k hk))]; exact h
  · by_cases q : a = ι k
    · exact ⟨_, by rw [q]; exact upd_same⟩
    · exact ⟨o, by rw [upd_ne q]; exact h⟩
  · by_cases q : a = ι k
    · subst q; rw [f0] at h; cases h
    · rw [upd_ne q]; exact rel.sub _ _ h
  · rw [List.length_set]
    by_cases q : j = k
    · subst q
      rw [List.getElem?_set_self hk] at ej
      cases ej
      exact ⟨f0, upd_same⟩
    · rw [List.getElem?_set_ne (Ne.symm q)] at ej
      have hj : j < S.length := (List.getElem?_eq_some_iff.mp ej).1
      have := rel.obj j o ej
      have nj : ι j ≠ ι k := fun e => q (rel.inj j k hj hk e)
      cases o with
      | frz x => exact this
      | lst zs =>
        obtain ⟨g0, ws, g1, g2⟩ := this
        exact ⟨g0, ws, by rw [upd_ne nj]; exact g1, g2⟩
      | gh x =>
        obtain ⟨g0, g2⟩ := this
        exact ⟨g0, g2.butI nj h0 fun b o hb e => by rw [upd_ne hb]; exact e⟩
theorem dci_new {p : Addr} {kvs : KVi} (rel : Rel K ι F H S) (hp : H p = none) :
    ∃ ι', Stp ι F H S.length ι' F (upd H p (dciO kvs)) (S ++ [Ob.gh (.dci kvs)]).length ∧ Rel K ι' F (upd H p (dciO kvs)) (S ++ [.gh (.dci kvs)]) ∧ ι' S.length = p := by
  have fp : F p = none := rel.sub.free hp
  have g : Grow F H F (upd H p (dciO kvs)) := ⟨Same.refl _, fun a o h => by rw [upd_ne (ne_of_none h hp)]; exact h, fun a o h => by rw [upd_ne (ne_of_none (rel.sub _ _ h) hp)]; exact rel.sub _ _ h, fun a o h => .inl h⟩
  exact place_new (rel.grow g) g.stp hp fp (show upd H p (dciO kvs) p = some (dciO kvs) from upd_same) (rel.ne hp)
end
section
variable {X : Cx} {W : WX} {o i e c : Expr} {pos apos cpos p1 p2 : Pos} {to ti te : TE} {fo fi fa fb fc f : DE} {st : Stmt}
/-! ### {a: b} -/
def diN (a b : Int) : DE := fun sl S => .ok (.loc S.length) (S ++ [.gh (.dci [(a, b)])])
theorem q_diN {a b : Int} {j1 j2 : Nat} : QE X W (.Dict [some (.Constant (.int a) j1 p1)] [.Constant (.int b) j2 p2] pos) (diN a b) := by
  refine PE.imp (pe_disp (pps_cons pe_int pe_int pps_nil) (by rfl) (by rfl) (by simp) (by simp)) fun σ H Q ⟨ι, F, S, sl, hz, hs, rel, q⟩ p hp => ?_
  refine ⟨upd_same, [(.inl a, .int b)], rfl, by simp, ?_⟩
  obtain ⟨ι', st, r', e'⟩ := dci_new (kvs := [(a, b)]) rel hp
  have := q ι' F _ st r' (.ref p) ⟨by simp, by rw [e']⟩
  rw [upd_upd]
  exact this
/-! ### d[k], k in d -/
def ixI (fo fi : DE) : DE := fun sl S => (fo sl S).bind fun x S1 => (fi sl S1).bind fun y S2 => match dciAt S2 x, y with
  | some (_, kvs), .d (.int i) => okD ((valI kvs i).map .int) S2
  | _, _ => .bad
theorem q_ixI {j : Nat} (hr : Room j X.A) (ho : QE X W o fo) (hi : QE X W i fi) (hs : NoSl i) : QE X W (.Subscript o i pos) (ixI fo fi) := by
  refine PE.imp (pe_dget (by have := hr.un; omega) ho hi hs) fun σ H Q ⟨ι, F, S, sl, hz, hs, rel, q⟩ => ?_
  refine tE.two hz hs rel q fun x y S2 ι2 F2 H2 u v s2 r2 ru rv h2 => ?_
  split at h2
  · rename_i kk kvs i e1
    obtain ⟨rfl, e2⟩ := dciAt_eq e1
    obtain ⟨hk, rfl⟩ := ru
    obtain ⟨_, dr⟩ := r2.obj _ _ e2
    cases rv
    obtain ⟨z, ez, k2⟩ := okD_ok h2 r2
    obtain ⟨n, en, rfl⟩ := Option.map_eq_some_iff.mp ez
    refine ⟨_, .int n, rfl, ?_, k2 _ (.int _)⟩
    have := DGet.k (k := .inl i) (show H2 (ι2 kk) = some (.dK (upI kvs)) from dr)
    rw [valI_up, en] at this
    exact this
  · exact h2.elim
def inI (neg : Bool) (fi fo : DE) : DE := fun sl S => (fi sl S).bind fun y S1 => (fo sl S1).bind fun x S2 => match dciAt S2 x, y with
  | some (_, kvs), .d (.int i) => .ok (.d (.bool (neg ^^ (valI kvs i).isSome))) S2
  | _, _ => .bad
theorem inI_ok {neg : Bool} {H : Hp} {Q : VK} {σ : CxSt} (h : tE X.K X.mg W (inI neg fi fo) σ H Q) : tE X.K X.mg W fi σ H fun y H1 => tE X.K X.mg W fo σ H1 fun x H2 => ∃ a r, x = .ref a ∧ DGet H2 a y r ∧ Q (.bl (neg ^^ r.isSome)) H2 := by
  obtain ⟨ι, F, S, sl, hz, hs, rel, q⟩ := h
  refine tE.two hz hs rel q fun y x S2 ι2 F2 H2 v u s2 r2 rv ru h2 => ?_
  split at h2
  · rename_i kk kvs i e1
    obtain ⟨rfl, e2⟩ := dciAt_eq e1
    obtain ⟨hk, rfl⟩ := ru
    obtain ⟨_, dr⟩ := r2.obj _ _ e2
    cases rv
    have := DGet.k (k := .inl i) (show H2 (ι2 kk) = some (.dK (upI kvs)) from dr)
    refine ⟨_, _, rfl, this, ?_⟩
    have e : (valV (upI kvs) (.inl i)).isSome = (valI kvs i).isSome := by rw [valI_up, Option.isSome_map]
    rw [e]
    exact h2 ι2 F2 H2 .refl r2 _ (Dq.bl _)
  · exact h2.elim
theorem q_inI {j : Nat} (hr : Room j X.A) (hi : QE X W i fi) (ho : QE X W o fo) (hm : behindInMarks .In o = false := by rfl) : QE X W (.Compare i [.In] [o] pos) (inI false fi fo) :=
  PE.imp (pe_cmp (pc_din (by have := hr.un; omega) hi ho) hm) fun σ H Q h => by have h' := inI_ok h; simp only [Bool.false_xor] at h'; exact h'
theorem t_inI {j : Nat} (hr : Room j X.A) (hi : QE X W i fi) (ho : QE X W o fo) (hm : behindInMarks .In o = false := by rfl) : QT X W (.Compare i [.In] [o] pos) (asB (inI false fi fo)) :=
  PT.imp (pt_cmp (pc_din (by have := hr.un; omega) hi ho) hm) fun σ H Q h => tB_in (fun σ H Q h => by have h' := inI_ok h; simp only [Bool.false_xor] at h'; exact h') h
theorem t_ninI {j : Nat} (hr : Room j X.A) (hi : QE X W i fi) (ho : QE X W o fo) (hm : behindInMarks .NotIn o = false := by rfl) : QT X W (.Compare i [.NotIn] [o] pos) (asB (inI true fi fo)) :=
  PT.imp (pt_cmp (pc_dnotin (by have := hr.un; omega) hi ho) hm) fun σ H Q h => tB_in (fun σ H Q h => by have h' := inI_ok h; simp only [Bool.true_xor] at h'; exact h') h
/-! ### d[k] = v -/
def putIV (S : Sto) (x y z : Val) : Option Sto := match dciAt S x, y, z with
  | some (k0, kvs), .d (.int i), .d (.int v) => if kvs.length < sizeLine then some (S.set k0 (.gh (.dci (putI kvs i v)))) else none
  | _, _, _ => none
theorem putIV_ok {K : PySem.W.Frag} {ι : Nat → Addr} {F H : Hp} {S S' : Sto} {x y z : Val} {u v w : V} {Q : Hp → Prop} (rel : Rel K ι F H S) (e : putIV S x y z = some S') (ru : RV K ι F S.length u x) (rv : RV K ι F S.length v y) (rw' : RV K ι F S.length w z)
    (k : ∀ H', Stp ι F H S.length ι F H' S'.length → Rel K ι F H' S' → Q H') : rSetD u v w H Q := by
  unfold putIV at e
  split at e
  · rename_i k0 kvs i n e0
    obtain ⟨rfl, e00⟩ := dciAt_eq e0
    split at e
    · rename_i hl
      cases e
      obtain ⟨hk, rfl⟩ := ru
      obtain ⟨_, dn⟩ := rel.obj _ _ e00
      cases rv
      cases rw'
      obtain ⟨st, r'⟩ := dci_set (kvs2 := putI kvs i n) rel e00
      refine ⟨_, _, rfl, DPut.k (k := .inl i) (show H (ι k0) = some (.dK (upI kvs)) from dn) (by rw [List.length_map]; exact hl), ?_⟩
      rw [putI_up]
      exact k _ st r'
    · cases e
  · cases e
def putIS (fv fo fi : DE) : DS := fun sl S => thenS (fv sl S) sl fun z S1 => thenS (fo sl S1) sl fun x S2 => thenS (fi sl S2) sl fun y S3 => match putIV S3 x y z with
  | some S4 => .nx sl S4
  | none => .bad
theorem s_putI (h : PS X st (tAsg (tE X.K X.mg W fc) (gSub (tE X.K X.mg W fa) (tE X.K X.mg W fb) rSetD))) : QS X W st (putIS fc fa fb) := by
  refine PS.imp h fun D σ H ⟨ι, F, S, sl, hz, hs, rel, q⟩ => ?_
  refine ⟨ι, F, S, sl, hz, hs, rel, Aft.imp (AftS.bind hz hs q) fun z S1 ι1 F1 H1 ⟨s1, r1, h1⟩ w rw' => ?_⟩
  refine ⟨ι1, F1, S1, sl, hz, hs.stp s1, r1, Aft.imp (AftS.bind hz (hs.stp s1) h1) fun x S2 ι2 F2 H2 ⟨s2, r2, h2⟩ u ru => ?_⟩
  refine ⟨ι2, F2, S2, sl, hz, (hs.stp s1).stp s2, r2, Aft.imp (AftS.bind hz ((hs.stp s1).stp s2) h2) fun y S3 ι3 F3 H3 ⟨s3, r3, h3⟩ v rv => ?_⟩
  split at h3
  · rename_i S4 e4
    exact putIV_ok r3 e4 (ru.stp s3) rv ((rw'.stp s2).stp s3) fun H' st r' => h3 ι3 F3 H' σ st r' hz ((((hs.stp s1).stp s2).stp s3).stp st)
  · exact h3.elim
/-! ### sorted(d) -/
def leII (a b : Int) : Bool := decide (a ≤ b)
def rSortI : List V → Hp → VK → Prop := fun vs H Q => ∃ a kvs, vs = [.ref a] ∧ H a = some (dciO kvs) ∧ kvs.length < 64 ∧ ∀ p, H p = none → Q (.ref p) (upd H p (.lst ((isort leII (kvs.map (·.1))).map V.int)))
theorem cr_sortI (hc : X.calm = true) : CallR X (.builtin "sorted") rSortI := fun pins s σ H xs us Q I r ⟨a, kvs, ex, hd, hl, q⟩ => by
  have hd' : H a = some (.dK (upI kvs)) := hd
  refine call_sortedDI hc pins s σ H xs us Q I r ⟨a, upI kvs, kvs.map (·.1), ex, .inl hd', by simp [upI], by simpa using hl, fun ys p hp hs hn => ?_⟩
  have e : ys = isort leII (kvs.map (·.1)) :=
    List.Perm.eq_of_pairwise (le := (· ≤ ·)) (fun a b _ _ h1 h2 => Int.le_antisymm h1 h2) hs
      ((isort_sorted (le := leII) (fun a b c h1 h2 => decide_eq_true (Int.le_trans (of_decide_eq_true h1) (of_decide_eq_true h2))) (fun a b => by
        unfold leII
        simpa using Int.le_total a b) _).imp fun h => of_decide_eq_true h) (hp.trans (isort_perm (le := leII) _).symm)
  rw [e]
  exact q p hn
def srtI (la : DL) : DF := fun sl S => (la sl S).bind fun ys S1 => match ys with
  | [y] => match dciAt S1 y with
    | some (_, kvs) => if kvs.length < 64 then .ok ((isort leII (kvs.map (·.1))).map fun i => .d (.int i)) S1 else .bad
    | none => .bad
  | _ => .bad
theorem RVs.ints {K : PySem.W.Frag} {ι : Nat → Addr} {F : Hp} {n : Nat} : ∀ l : List Int, RVs K ι F n (l.map V.int) (l.map fun i => .d (.int i))
  | [] => .nil
  | i :: l => .cons (Dq.int i) (RVs.ints l)
theorem f_srtI {la : DL} (h : PE X e (tCB rSortI (tL X.K X.mg W la))) : QF X W e (srtI la) := by
  refine PE.imp h fun σ H Q ⟨ι, F, S, sl, hz, hs, rel, q⟩ => ?_
  refine ⟨ι, F, S, sl, hz, hs, rel, Aft.imp (Aft.bind q) fun ys S1 ι1 F1 H1 ⟨s1, r1, h1⟩ us rus => ?_⟩
  split at h1
  · rename_i y
    split at h1
    · rename_i k kvs e1
      split at h1
      · rename_i hl
        obtain ⟨u, rfl, ru⟩ := rus.one
        obtain ⟨rfl, e2⟩ := dciAt_eq e1
        obtain ⟨hk, rfl⟩ := ru
        obtain ⟨_, dr⟩ := r1.obj _ _ e2
        exact ⟨_, kvs, rfl, dr, hl, fun p hp => h1 ι1 F1 H1 .refl r1 p _ hp (RVs.ints _)⟩
      · exact h1.elim
    · exact h1.elim
  · exact h1.elim
theorem q_srtI {p : Pos} {es : List Expr} {la : DL} (hc : X.calm = true) (hm : X.mg "sorted" = none) (ha : QA X W (e :: es) la) (hg : Gl X "sorted" := by rfl)
    (hs : starEach (e :: es) X.env = (false, eval e X.env) :: starEach es X.env := by rfl) (hpl : (backTo pos (starEach es X.env)).any (·.1) = false := by rfl) : QF X W (.Call (.Name "sorted" p) (e :: es) [] pos) (srtI la) :=
  f_srtI (pe_callB (cr_sortI hc) hg hm rfl ha (by decide) (by decide) hs hpl)
end
end DV
set_option Elab.async false
set_option linter.all false
set_option maxRecDepth 100000
set_option maxHeartbeats 4000000
namespace DV
open PySem PySem.Spec PyProof.Rows L2
def enumD : Nat → List PyData → List PyData
  | _, [] => []
  | i, d :: ds => .tuple [.int (i : Nat), d] :: enumD (i + 1) ds
theorem enumD_length : ∀ (i : Nat) (ds : List PyData), (enumD i ds).length = ds.length
  | _, [] => rfl
  | i, d :: ds => by simp [enumD, enumD_length (i + 1) ds]
theorem enumD_get : ∀ (i j : Nat) (ds : List PyData) (d : PyData), ds[j]? = some d → (enumD i ds)[j]? = some (.tuple [.int ((i + j : Nat) : Int), d])
  | i, j, [], d, h => by simp at h
  | i, 0, e :: ds, d, h => by
    simp at h
    subst h
    simp [enumD]
  | i, j + 1, e :: ds, d, h => by
    have := enumD_get (i + 1) j ds d (by simpa using h)
    rw [show i + 1 + j = i + (j + 1) by omega] at this
    simpa [enumD] using this
theorem it_enum {K : PySem.W.Frag} {F : Hp} {a : Addr} {vs : List V} {ds : List PyData} (h : F a = some (.lst vs)) (d : DqAll K F vs ds) : ItOk K F (Ite K a) (enumD 0 ds) where
  go := fun i F1 H1 hi f1 f2 => by
    rw [enumD_length] at hi
    exact ⟨vs, vs[i]'(by rw [d.length]; exact hi), SqL.of (f2 _ _ (f1 _ _ h)), List.getElem?_eq_getElem _⟩
  yld := fun i F1 H1 x H2 hi f1 f2 ⟨T, y, e1, hT, e2, q⟩ => by
    rw [enumD_length] at hi
    subst e1 e2
    have e := q vs (SqL.of (f2 _ _ (f1 _ _ h)))
    obtain ⟨v, e2, dv⟩ := d.get (List.getElem?_eq_getElem hi)
    rw [e] at e2
    cases e2
    have g := Grow.new (o := .tup [.int (i : Nat), y]) f2 hT
    have ei := enumD_get 0 i ds _ (List.getElem?_eq_getElem hi)
    rw [Nat.zero_add] at ei
    exact ⟨_, _, ei, g, .tup (SqT.of upd_same) (.cons (.int _) (.cons (Dq.mono (f1.trans g.ff) _ _ dv) .nil)) fun h => absurd h (by simp [sumlike])⟩
  stop := fun i F1 H1 hi f1 f2 => by
    rw [enumD_length] at hi
    exact ⟨vs, SqL.of (f2 _ _ (f1 _ _ h)), by rw [d.length]; exact hi⟩
def enumI (la : DL) : IT := fun sl S => (la sl S).bind fun ys S1 => match ys with
  | [y] => match frz S1 y with
    | some (.list ds, S2) => .ok (enumD 0 ds) S2
    | _ => .bad
  | _ => .bad
section
variable {X : Cx} {W : WX} {e : Expr} {elts : List Expr} {kk : Nat} {tpos p pos : Pos} {la : DL}
theorem i_enum (hg : Gl X "enumerate") (hm : X.mg "enumerate" = none) (ha : QA X W [e] la) (hs : starEach [e] X.env = [(false, eval e X.env)] := by rfl) : QI X W (.Tuple elts kk tpos) (.Call (.Name "enumerate" p) [e] [] pos) (enumI la) := by
  refine PI.imp (pi_enum hg hm ha hs) fun σ H Q ⟨ι, F, S, sl, hz, hs, rel, q⟩ => ?_
  refine ⟨ι, F, S, sl, hz, hs, rel, Aft.imp (Aft.bind q) fun ys S1 ι1 F1 H1 ⟨s1, r1, h1⟩ us rus => ?_⟩
  split at h1
  · rename_i y
    obtain ⟨u, rfl, ru⟩ := rus.one
    split at h1
    · rename_i ds S2 e2
      obtain ⟨F2, g2, d2⟩ := frz_ok e2 r1 ru
      cases d2 with
      | lst q2 dd => exact ⟨_, _, rfl, SqL.of (g2.2.2.sub _ _ q2), h1 ι1 F2 H1 g2.2.1 g2.2.2 _ (it_enum q2 dd)⟩
    · exact h1.elim
  · exact h1.elim
end
end DV
set_option Elab.async false
set_option linter.all false
set_option maxRecDepth 100000
set_option maxHeartbeats 4000000
namespace DV
open PySem PySem.Spec PyProof.Rows L2
section
variable {prog : Program} {w : World} {A : Around} {E : Value → Shared → Prop} {s : Shared} {r d : Addr} {es : Array DictEntry} {ep : Nat}
theorem tuple_view {Q : Value → Shared → Prop} (quiet : A.handled = none) (view : s.heap.IsItemsView r d) (raw : s.heap.DictRaw d es ep) (few : es.size ≤ sizeLine)
    (after : ∀ (h' : Heap) (tk : Nat) (as : List Addr), (∀ b o, s.heap.get? b = some o → h'.get? b = some o) → as.length = es.size → PySem.W.DilG es s.heap.objs.size h' as → Q (.ref h'.objs.size) { s with heap := h'.push (tupObj (as.map Value.ref)), toks := tk }) :
    wpAny (model prog w) A (call (.type "tuple") [.ref r]) Q E s := by
  apply callType_codes (Q₁ := fun v s1 => s1.TypeIs v "tuple" ∧ Q v s1) F.called_tuple (F.typeCall_tuple_1 _) F.entry_object_init
  · refine codeAny_of_tree ?_
    show wpAny _ A.in1.in1 (checkBuiltinCall "tuple.__new__" ⟨[.type "tuple", .ref r], []⟩ >>= fun _ => again (.builtin "tuple.__new__" ⟨[.type "tuple", .ref r], []⟩)) _ _ s
    apply wpAny_bind
    apply wpAny_of_eq (F.newCall_tuple_1 _)
    apply wpAny_pure
    refine ⟨plainId_quiet F.plain_tuple_new _, codeAny_builtin F.entry_tuple_new ?_⟩
    rw [Around.under_plainId F.plain_tuple_new _]
    have c1 := sub_tuple_self
    have c2 := init_tuple_lookup
    have c3 := madeHere_tuple
    have ty : s.TypeIs (.ref r) "dict_items" := let ⟨o, e, q⟩ := view; ⟨o, e, q.1⟩
    have quiet1 : A.in1.in1.handled = none := quiet
    wp_walk using wpAny_typeOf ty, PySem.W.dil_collect (A := A.in1.in1) quiet1 view raw few
    intro h' tk as kept len g
    show wpAny _ _ (Builtin.Tuple.tupleExact (as.map Value.ref).toArray >>= fun v => ret v) _ _ _
    unfold Builtin.Tuple.tupleExact
    apply wpAny_bind
    apply wpAny_newObj_type
    · exact wpAny_pure ⟨⟨_, Heap.get?_push_size _ rfl, rfl⟩, after h' tk as kept len g⟩
    · show ((as.map Value.ref).toArray).size ≤ sizeLine
      simp only [List.size_toArray, List.length_map]
      exact len ▸ few
  · rintro v s1 ⟨ty, q⟩
    exact ⟨ty, F.args_object_init_2 v _, object_init_meets F.called_tuple.init.lookup F.called_tuple.made (by decide) prog w A.in1 _ s1 ⟨ty, rfl, q⟩⟩
end
section
variable {X : Cx} {W : WX} {e : Expr} {fo : DE} {pos apos cpos p : Pos}
def rTupIt (K : PySem.W.Frag) : List V → Hp → VK → Prop := fun vs H Q => ∃ p a F kvs, vs = [.ref p] ∧ H p = some (L2.DX.itemsO p a) ∧ Same F H ∧ DN K F H a kvs ∧ kvs.length ≤ sizeLine ∧ noSum (pairsD kvs) = true ∧ ∀ t F' H', Grow F H F' H' → Dq K F' t (.tuple (pairsD kvs)) → Q t H'
theorem cr_tupIt (hc : X.calm = true) : CallR X (.type "tuple") (rTupIt X.K) := by
  intro pins s σ H xs us Q I r h
  obtain ⟨p, a, F, kvs, rfl, hp, sub, ⟨es, ep, xs, vs, dr⟩, hl, ns, q⟩ := h
  obtain ⟨u, rfl, rx⟩ := vals1 r
  cases rx
  obtain ⟨_, raw⟩ := dctH I sub dr
  have view : s.heap.IsItemsView p a := (show ObjOk X.prog X.w H s.heap p (L2.DX.itemsO p a) from I.hok p _ hp).1
  have few : es.size ≤ sizeLine := by rw [EntR.size dr]; exact hl
  refine tuple_view (I.ok.hd hc) view raw few fun h' tk as kept len g => ?_
  obtain ⟨H2, F2, I2, gr, dq⟩ := pairs_taken (tk := tk) I sub dr kept len g (Nat.le_refl _) ns
  have vals : Vals (as.map V.ref) (as.map Value.ref) := by
    clear len dq g
    induction as with
    | nil => exact .nil
    | cons b bs ih => exact .cons rfl ih
  refine new_tupF I2 vals (by rw [List.length_map, len]; exact few) fun q' its hq => ?_
  have g2 := Grow.new (o := TupF its (as.map V.ref)) gr.sub hq
  exact q _ _ _ (gr.trans g2) (.tup (SqT.ofF upd_same) (DqAll.mono g2.ff _ _ dq) fun _ => .of upd_same)
def tupIt (fo : DE) : DE := fun sl S => (fo sl S).bind fun x S1 => match dctAt S1 x with
  | some (_, kvs) => if kvs.length ≤ sizeLine ∧ noSum (pairsD kvs) = true then .ok (.d (.tuple (pairsD kvs))) S1 else .bad
  | none => .bad
theorem q_tupIt (h : PE X e (tCB (rTupIt X.K) (tCons (fun σ H Q => tE X.K X.mg W fo σ H fun x H1 => ∃ a es ep, x = .ref a ∧ H1 a = some (DctO a es ep) ∧ (a == sysModules) = false ∧ ∀ p, H1 p = none → Q (.ref p) (upd H1 p (L2.DX.itemsO p a))) tNil))) : QE X W e (tupIt fo) := by
  refine PE.imp h fun σ H Q ⟨ι, F, S, sl, hz, hs, rel, q⟩ => ?_
  refine ⟨ι, F, S, sl, hz, hs, rel, Aft.imp (Aft.bind q) fun x S1 ι1 F1 H1 ⟨s1, r1, h1⟩ u ru => ?_⟩
  split at h1
  · rename_i kk kvs e1
    obtain ⟨rfl, e2⟩ := dctAt_eq e1
    obtain ⟨hk, rfl⟩ := ru
    obtain ⟨_, es, ep, xs, vs, dr⟩ := r1.obj _ _ e2
    split at h1
    · rename_i ok
      refine ⟨_, es, ep, rfl, dr.at_, dr.nm, fun p hp => ?_⟩
      have g0 := view_grow (K := X.K) (a := ι1 kk) r1.sub hp
      refine ⟨p, ι1 kk, F1, kvs, rfl, upd_same, g0.sub, ⟨es, ep, xs, vs, dr.ext (Same.refl _) ((g0.hh _ _ dr.at_).trans dr.at_.symm)⟩, ok.1, ok.2, fun t F' H' g d => ?_⟩
      have g2 := g0.trans g
      exact h1 ι1 F' H' g2.stp (r1.grow g2) t d
    · exact h1.elim
  · exact h1.elim
/-- tuple(o.items()) -/
theorem q_tupItems {o : Expr} (hc : X.calm = true) (hm : X.mg "tuple" = none) (ho : QE X W o fo) (hg : Gl X "tuple" := by rfl) (hbase : attributeBase o "items" X.env (eval o X.env) = eval o X.env := by rfl) (hline : (apos.endLine == cpos.line) = true := by rfl) : QE X W (.Call (.Name "tuple" p) [.Call (.Attribute o "items" apos) [] [] cpos] [] pos) (tupIt fo) :=
  q_tupIt (pe_callTy (cr_tupIt hc) hg hm rfl (pa_cons (pe_itemsN ho hbase hline) pa_nil rfl) (by decide) (by decide) rfl rfl)
/-- sorted(o.items()) -/
theorem q_srtItems {j : Nat} {o : Expr} (hr : Room j X.A) (hc : X.calm = true) (hm : X.mg "sorted" = none) (ho : QE X W o fo) (hg : Gl X "sorted" := by rfl) (hbase : attributeBase o "items" X.env (eval o X.env) = eval o X.env := by rfl) (hline : (apos.endLine == cpos.line) = true := by rfl) : QE X W (.Call (.Name "sorted" p) [.Call (.Attribute o "items" apos) [] [] cpos] [] pos) (srtIt fo) :=
  q_srtIt (pe_callB (cr_sortIt hc (Room.u65 hr)) hg hm rfl (pa_cons (pe_itemsN ho hbase hline) pa_nil rfl) (by decide) (by decide) rfl rfl)
end
end DV
set_option Elab.async false
set_option linter.all false
set_option maxRecDepth 100000
set_option maxHeartbeats 4000000
namespace DV
open PySem PySem.Spec PyProof.Rows L2
inductive CalN (P : Program) (w : World) (K : PySem.W.Frag) (mg : Str → Option Value) (base : Heap) (x : Str) (k : Nat) (ps : List Str) (Fn : FnN) : Prop
  | mk {f : Addr} {fd : FuncData} (ok : FnOk P w K mg base (L2N.CX P w) k f fd ps (spN K ps.length Fn)) (hm : mg x = some (.ref f)) (kp : PySem.W.keepIn K (.ref f) = true) (bd : Binds K fd ps []) (ln : ∀ args kvs, Fn args = some kvs → args.length = ps.length)
section
variable {X : Cx} {W : WX} {a b c e o i : Expr} {es : List Expr} {fa fb fc f fr fo fi : DE} {la : DL} {ba : DB} {pos p p2 apos cpos : Pos} {k j : Nat} {x : Str} {ps : List Str}
theorem q_n {Fn : FnN} (G : CalN X.prog X.w X.K X.mg X.base x k ps Fn) (hr : Room j X.A) (hj : k ≤ j) (tk : L2N.Takes X W) (ha : QA X W (e :: es) la) (hg : Gl X x := by rfl) (hdb : (x == ("__debug__" : Str)) = false := by decide)
    (he : starEach (e :: es) X.env = (false, eval e X.env) :: starEach es X.env := by rfl) (hpl : (backTo pos (starEach es X.env)).any (·.1) = false := by rfl) : QE X W (.Call (.Name x p) (e :: es) [] pos) (callN Fn la) := by
  obtain ⟨ok, hm, kp, bd, ln⟩ := G
  exact q_callN ok (hr.mono hj) hg hm kp bd tk ln ha hdb he hpl
theorem q_dict (hr : Room j X.A) (hc : X.calm = true) (hm : X.mg "dict" = none) (h : QE X W e f) (hg : Gl X "dict" := by rfl) (he : starEach [e] X.env = (false, eval e X.env) :: starEach [] X.env := by rfl) (hpl : (backTo pos (starEach [] X.env)).any (·.1) = false := by rfl) : QE X W (.Call (.Name "dict" p) [e] [] pos) (dictN f) :=
  q_dictN (pe_callTy (cr_dictN hc (by have := hr.un; omega)) hg hm rfl (pa_cons h pa_nil he) (by decide) (by decide) he hpl)
theorem q_cnt (h : PE X e (tBM X.K "list" (rCntI X.K) (tE X.K X.mg W fo) (tL X.K X.mg W la))) : QE X W e (rdE cntM fo la) := PE.imp h fun σ H Q q => rd_ok m_cnt q
theorem q_idx (h : PE X e (tBM X.K "list" (rIndex X.K) (tE X.K X.mg W fo) (tL X.K X.mg W la))) : QE X W e (rdE idxM fo la) := PE.imp h fun σ H Q q => rd_ok m_idx q
theorem room8 {A : Around} (hr : Room j A) : A.units + 8 < cLine := by have := hr.un; omega
theorem u1 (hr : Room j X.A) : X.A.units + 1 < cLine := by have := hr.un; omega
end
end DV
set_option Elab.async false
set_option linter.all false
set_option maxRecDepth 100000
set_option maxHeartbeats 4000000
namespace DV
open PySem PySem.Spec PyProof.Rows L2
/-- the tuple at a, of n items, and the list at b, of m, as they stand at each turn; each two in a new pair -/
def ItzM (K : PySem.W.Frag) (a b : Addr) (n m : Nat) : It where
  go := fun i H => ∃ xs ys x y, SqT K H a xs ∧ SqL K H b ys ∧ xs.length = n ∧ ys.length = m ∧ xs[i]? = some x ∧ ys[i]? = some y
  yld := fun i H v H' => ∃ T x y, v = .ref T ∧ H T = none ∧ H' = upd H T (.tup [x, y]) ∧ (∀ xs, SqT K H a xs → xs[i]? = some x) ∧ ∀ ys, SqL K H b ys → ys[i]? = some y
  stop := fun i H => ∃ xs ys, SqT K H a xs ∧ SqL K H b ys ∧ xs.length = n ∧ ys.length = m ∧ (n ≤ i ∨ m ≤ i)
/-- what is known ahead of the turn i -/
def StM (a b z TI TO i1 i2 : Addr) (n m i : Nat) (h : Heap) : Prop := IsZip h z TI TO .none ∧ IsTupOf2 h TI (.ref i1) (.ref i2) ∧ (∃ x y, IsTupOf2 h TO x y) ∧ h.IsTupleIter i1 a i ∧ h.IsListIter i2 b i ∧ i ≤ n ∧ i ≤ m
theorem turn_zipM {P : Program} {w : World} {K : PySem.W.Frag} {elts : List Expr} {kk : Nat} {tpos : Pos} {a b z TI TO i1 i2 : Addr} {n m : Nat} (D : ZipApart z TI TO i1 i2 a b) : Turn P w K (.Tuple elts kk tpos) (ItzM K a b n m) [z, TI, TO, i1, i2] z (StM a b z TI TO i1 i2 n m) := by
  have sep : ZipSep2 z TI TO i1 i2 [i1, a] [i2, b] := ⟨D.TIz, D.TOz, D.TITO, D.TIi1, by simp, by simp [Ne.symm D.i1z, Ne.symm D.l1z], by simp [D.TOi1, Ne.symm D.l1TO], D.TIi2, by simp, by simp [Ne.symm D.i2z, Ne.symm D.l2z], by simp [D.TOi2, Ne.symm D.l2TO], by simp [D.i12, Ne.symm D.l2i1], by simp [Ne.symm D.i12, Ne.symm D.l1i2]⟩
  have five : ∀ {h : Heap} {i : Nat}, StM a b z TI TO i1 i2 n m i h → ∀ c ∈ [z, TI, TO, i1, i2], ∃ o, h.get? c = some o ∧ ∀ v, o.data ≠ .cell v := fun {h i} st c hc => by
    obtain ⟨hz, hI, ⟨x, y, hO⟩, ⟨o1, e1, _, d1⟩, ⟨o2, e2, _, d2⟩, _⟩ := st
    simp only [List.mem_cons, List.not_mem_nil, or_false] at hc
    rcases hc with rfl | rfl | rfl | rfl | rfl
    · exact ⟨_, hz, fun v q => nomatch q⟩
    · exact ⟨_, hI, fun v q => nomatch q⟩
    · exact ⟨_, hO, fun v q => nomatch q⟩
    · exact ⟨_, e1, fun v q => by rw [d1] at q; cases q⟩
    · exact ⟨_, e2, fun v q => by rw [d2] at q; cases q⟩
  constructor
  · exact List.mem_cons_self
  · exact fun i h st => five st
  · rintro i h h' ⟨hz, hI, ⟨x, y, hO⟩, t1, t2, le⟩ k
    exact ⟨k _ (by simp) _ hz, k _ (by simp) _ hI, ⟨x, y, k _ (by simp) _ hO⟩, t1.at fun o => k _ (by simp) o, t2.at fun o => k _ (by simp) o, le⟩
  · rintro X rfl rfl rfl hc i pins s σ H E I hf st ⟨xs, ys, x, y, qx, qy, lx, ly, hx, hy⟩
    have st5 := five st
    obtain ⟨hz, hI, ⟨x0, y0, hO⟩, t1, t2, le1, le2⟩ := st
    obtain ⟨its, rv, p, _⟩ := I.tuple qx
    obtain ⟨jts, rw', q, _⟩ := I.list qy
    obtain ⟨u, hu, ru⟩ := rv.get hx
    obtain ⟨u2, hu2, ru2⟩ := rw'.get hy
    have hi1 : i < its.length := (List.getElem?_eq_some_iff.mp hu).1
    have hi2 : i < jts.length := (List.getElem?_eq_some_iff.mp hu2).1
    have quiet : X.A.in1.handled = none := I.ok.hd hc
    refine wpAny_pyNext_zipD2_item sep (Draws.tuple quiet i1 a D.l1i1 its.toArray) (Draws.list quiet i2 b D.l2i2 jts.toArray) hz hI hO ⟨t1, p⟩ ⟨t2, q.isList⟩ (by simpa using hi1) (by simpa using hi2) fun y1 y2 h' tk e1 e2 z' O' s1 s2 hT hsz hk => ?_
    have e1 : its.toArray[i]? = some y1 := e1
    have e2 : jts.toArray[i]? = some y2 := e2
    rw [List.getElem?_toArray, hu] at e1
    rw [List.getElem?_toArray, hu2] at e2
    cases e1
    cases e2
    refine ⟨_, rfl, wpAny_letOwnedTupleGo_zip (s := { s with heap := h', toks := tk }) z' fun h2 z2 sb => ?_⟩
    have low : ∀ c ∈ [z, TI, TO, i1, i2], c < s.heap.objs.size := fun c hcm => let ⟨o, e, _⟩ := st5 c hcm; Heap.lt_size e
    have hT2 : h2.get? s.heap.objs.size = some { cls := .type "tuple", data := .seq #[u, u2] } := (sb.2 _ (Nat.ne_of_gt (low z (by simp)))).trans hT
    have pair : ObjOk X.prog X.w (upd H s.heap.objs.size (.tup [x, y])) h2 s.heap.objs.size (.tup [x, y]) := ⟨by show 2 ≤ sizeLine; decide, [u, u2], .cons ru (.cons ru2 .nil), ⟨_, hT2, rfl, _, rfl⟩⟩
    have out : ∀ c o, c ∉ [z, TI, TO, i1, i2] → s.heap.get? c = some o → h2.get? c = some o := fun c o hcm e => by
      simp only [List.mem_cons, List.not_mem_nil, or_false, not_or] at hcm
      exact (sb.2 c hcm.1).trans (hk c o hcm.1 hcm.2.2.1 hcm.2.2.2.1 hcm.2.2.2.2 e)
    refine ⟨.ref s.heap.objs.size, _, I.turnedNew (t' := tk) (ch := [z, TI, TO, i1, i2]) out hf (Nat.le_refl _) pair, rfl, ⟨_, x, y, rfl, I.hok.fresh (Nat.le_refl _), rfl, fun l hl => by rw [I.tuple_inj hl qx]; exact hx, fun l hl => by rw [I.list_inj hl qy]; exact hy⟩, ⟨z2, ?_, ⟨u, u2, ?_⟩, ?_, ?_, ?_, ?_⟩, fun c hcm => ?_⟩
    · exact (sb.2 _ D.TIz).trans (hk _ _ D.TIz D.TITO D.TIi1 D.TIi2 hI)
    · exact (sb.2 _ D.TOz).trans O'
    · exact s1.1.at fun o e => (sb.2 _ D.i1z).trans e
    · exact s2.1.at fun o e => (sb.2 _ D.i2z).trans e
    · rw [← lx, rv.length]; exact hi1
    · rw [← ly, rw'.length]; exact hi2
    · rw [upd_ne (Nat.ne_of_lt (low c hcm))]
      exact (hf c hcm).1
  · rintro X rfl rfl rfl hc i pins s σ H E I hf ⟨hz, hI, ⟨x0, y0, hO⟩, t1, t2, le1, le2⟩ ⟨xs, ys, qx, qy, lx, ly, fin⟩
    obtain ⟨its, rv, p, _⟩ := I.tuple qx
    obtain ⟨jts, rw', q, _⟩ := I.list qy
    have n1 : its.toArray.size = n := by rw [List.size_toArray, ← rv.length, lx]
    have n2 : jts.toArray.size = m := by rw [List.size_toArray, ← rw'.length, ly]
    have quiet : X.A.in1.handled = none := I.ok.hd hc
    refine wpAny_pyNext_zipD2_end sep (Draws.tuple quiet i1 a D.l1i1 its.toArray) (Draws.list quiet i2 b D.l2i2 jts.toArray) hz hI hO ⟨t1, p⟩ ⟨t2, q.isList⟩ (by omega) (by omega) (by omega) fun h' tk hk => ⟨rfl, I.turnedL (t' := tk) (ch := [z, TI, TO, i1, i2]) (fun c o hcm e => ?_) hf⟩
    simp only [List.mem_cons, List.not_mem_nil, or_false, not_or] at hcm
    exact hk c o hcm.1 hcm.2.2.1 hcm.2.2.2.1 hcm.2.2.2.2 e
  · exact fun A i s Q E st h => wpAny_pyIter_zip st.1 h
def iZipM (K : PySem.W.Frag) (ta : TA) : TI := fun σ H R => ta σ H fun vs H1 => ∃ a b xs ys, vs = [.ref a, .ref b] ∧ SqT K H1 a xs ∧ SqL K H1 b ys ∧ R (ItzM K a b xs.length ys.length) H1
section
variable {X : Cx} {W : WX} {e e2 : Expr} {elts : List Expr} {kk : Nat} {tpos p pos : Pos} {ta : TA} {la : DL}
theorem pi_zipM (hg : Gl X "zip") (hm : X.mg "zip" = none) (ha : PA X [e, e2] ta) (hs : starEach [e, e2] X.env = (false, eval e X.env) :: starEach [e2] X.env := by rfl) (hpl : (backTo pos (starEach [e2] X.env)).any (·.1) = false := by rfl) :
    PI X (.Tuple elts kk tpos) (.Call (.Name "zip" p) [e, e2] [] pos) (iZipM X.K ta) := by
  constructor
  intro pins s σ H R I h
  refine Call_ (ld_blt I hg hm PyProof.Rows.boot_zip (PyProof.Rows.callWith_type1 (thn (ha.run pos pins s σ H _ I h) ?_) hs hpl))
  rintro us s1 ⟨_, H1, I1, r1, a, b, xs, ys, rfl, qx, qy, q⟩
  obtain ⟨u, u2, rfl, ru, ru2⟩ := vals2 r1
  obtain rfl : u = Value.ref a := ru
  obtain rfl : u2 = Value.ref b := ru2
  obtain ⟨its, rv, p1, _⟩ := I1.tuple qx
  obtain ⟨jts, rw', p2, _⟩ := I1.list qy
  have la : a < s1.heap.objs.size := let ⟨_, e, _⟩ := p1; Heap.lt_size e
  refine zip_begins2 (begins_tuple a its.toArray) (begins_list b jts.toArray) p1 p2.isList fun h' hz hI hO e1 e2 hsz hk => wpAny_pyIter_zip hz ?_
  have five : ∀ c ∈ [s1.heap.objs.size + 4, s1.heap.objs.size + 2, s1.heap.objs.size + 3, s1.heap.objs.size, s1.heap.objs.size + 1], FpOk X pins H1 c := fun c hcm => by
    have ge : s1.heap.objs.size ≤ c := by
      simp only [List.mem_cons, List.not_mem_nil, or_false] at hcm
      omega
    exact I1.fpOk ge (I1.hok.fresh ge)
  exact ⟨_, _, _, _, H1, rfl, I1.kept (t' := s1.toks) hk, turn_zipM (PySem.W.ktu_apart s1.heap.objs.size a b la p2.lt), ⟨hz, hI, ⟨_, _, hO⟩, ⟨_, e1, rfl, rfl⟩, ⟨_, e2, rfl, rfl⟩, Nat.zero_le _, Nat.zero_le _⟩, five, q⟩
theorem it_zipM {K : PySem.W.Frag} {F : Hp} {a b : Addr} {vs us : List V} {ds es : List PyData} (h : SqT K F a vs) (d : DqAll K F vs ds) (h' : F b = some (.lst us)) (d' : DqAll K F us es) (ns : noSum (zipP ds es) = true) : ItOk K F (ItzM K a b vs.length us.length) (zipP ds es) where
  go := fun i F1 H1 hi f1 f2 => by
    obtain ⟨x, y, e1, e2, _⟩ := zip_get hi
    obtain ⟨v, q1, _⟩ := d.get e1
    obtain ⟨u, q2, _⟩ := d'.get e2
    exact ⟨vs, us, v, u, SqT.mono f2 (SqT.mono f1 h), SqL.of (f2 _ _ (f1 _ _ h')), rfl, rfl, q1, q2⟩
  yld := fun i F1 H1 w H2 hi f1 f2 ⟨T, v, u, ew, hT, eH, k1, k2⟩ => by
    subst ew eH
    obtain ⟨x, y, e1, e2, e3⟩ := zip_get hi
    obtain ⟨v', q1, dv⟩ := d.get e1
    obtain ⟨u', q2, du⟩ := d'.get e2
    obtain rfl : v' = v := Option.some.inj (q1.symm.trans (k1 vs (SqT.mono f2 (SqT.mono f1 h))))
    obtain rfl : u' = u := Option.some.inj (q2.symm.trans (k2 us (SqL.of (f2 _ _ (f1 _ _ h')))))
    have g := Grow.new (o := .tup [v', u']) f2 hT
    exact ⟨_, _, e3, g, .tup (SqT.of upd_same) (.cons (Dq.mono (f1.trans g.ff) _ _ dv) (.cons (Dq.mono (f1.trans g.ff) _ _ du) .nil)) fun h => absurd h (by rw [noSum_at ns e3]; exact Bool.false_ne_true)⟩
  stop := fun i F1 H1 hi f1 f2 => by
    refine ⟨vs, us, SqT.mono f2 (SqT.mono f1 h), SqL.of (f2 _ _ (f1 _ _ h')), rfl, rfl, ?_⟩
    unfold zipP at hi
    rw [List.length_zipWith] at hi
    rw [d.length, d'.length]
    omega
def zipJ (la : DL) : IT := fun sl S => (la sl S).bind fun xs S1 => match frzL S1 xs with
  | some ([.tuple ds, .list es], S2) => if noSum (zipP ds es) = true then .ok (zipP ds es) S2 else .bad
  | _ => zipI (fun _ _ => .ok xs S1) sl S1
theorem i_zipJ (hg : Gl X "zip") (hm : X.mg "zip" = none) (ha : QA X W [e, e2] la)
    (hs : starEach [e, e2] X.env = (false, eval e X.env) :: starEach [e2] X.env := by rfl) (hpl : (backTo pos (starEach [e2] X.env)).any (·.1) = false := by rfl) : QI X W (.Tuple elts kk tpos) (.Call (.Name "zip" p) [e, e2] [] pos) (zipJ la) := by
  refine PI.imp (PI.or (i_zip hg hm ha hs hpl) (pi_zipM hg hm ha hs hpl)) fun σ H Q ⟨ι, F, S, sl, hz, hs', rel, q⟩ => ?_
  unfold zipJ at q
  cases el : la sl S with
  | er x S1 => rw [el] at q; exact .inl ⟨ι, F, S, sl, hz, hs', rel, by unfold zipI; rw [el]; exact q⟩
  | bad => rw [el] at q; exact q.elim
  | ok xs S1 =>
    rw [el] at q
    simp only [R.bind] at q
    split at q
    · rename_i ds es S2 e3
      split at q
      · rename_i ns
        refine .inr ⟨ι, F, S, sl, hz, hs', rel, ?_⟩
        rw [el]
        intro ι1 F1 H1 s1 r1 us rus
        obtain ⟨F2, g2, d2⟩ := frzL_ok e3 r1 rus
        cases d2 with
        | cons a b =>
          cases b with
          | cons b c =>
            cases c
            cases a with
            | tup qa da _ =>
              cases b with
              | lst qb db => exact ⟨_, _, _, _, rfl, SqT.mono g2.2.2.sub qa, SqL.of (g2.2.2.sub _ _ qb), q ι1 F2 H1 (s1.trans g2.2.1) g2.2.2 _ (it_zipM qa da qb db ns)⟩
      · exact q.elim
    · refine .inl ⟨ι, F, S, sl, hz, hs', rel, ?_⟩
      unfold zipI at q ⊢
      rw [el]
      exact q
end
end DV
set_option Elab.async false
set_option linter.all false
set_option maxRecDepth 100000
set_option maxHeartbeats 4000000
namespace DV
open PySem PySem.Spec PyProof.Rows L2
theorem ints_read {h : Heap} : ∀ {l : List Int} {its : List Value}, Vals (l.map V.int) its → ∃ as, ReadsAll h its (l.map .int) as
  | [], _, r => by cases r; exact ⟨_, .nil⟩
  | i :: l, _, r => by
    cases r with
    | @cons _ u _ _ a b =>
      obtain ⟨t, rfl⟩ := a
      obtain ⟨as, q⟩ := ints_read b
      exact ⟨_, .cons (.int i t) q⟩
def rMinT (K : PySem.W.Frag) : List V → Hp → VK → Prop := fun vs H Q => ∃ a n ns, vs = [.ref a] ∧ SqT K H a ((n :: ns : List Int).map V.int) ∧ Q (.int (ns.foldl min n)) H
theorem cr_minT {X : Cx} (hc : X.calm = true) (hu : X.A.units + 65 < cLine) : CallR X (.builtin "min") (rMinT X.K) := by
  intro pins s σ H xs us Q I r h
  obtain ⟨a, n, ns, rfl, hq, q⟩ := h
  obtain ⟨u, rfl, rx⟩ := vals1 r
  cases rx
  obtain ⟨its, rv, p, _⟩ := I.tuple hq
  obtain ⟨as, hr⟩ := ints_read (h := s.heap) rv
  have alike : PySem.W.AlikeAll ((n :: ns).map PyData.int) := by
    refine ⟨fun x hx y hy => ?_, fun x hx => ?_⟩
    · obtain ⟨i, _, rfl⟩ := List.mem_map.mp hx
      obtain ⟨j, _, rfl⟩ := List.mem_map.mp hy
      rfl
    · obtain ⟨i, _, rfl⟩ := List.mem_map.mp hx
      exact fun z => nomatch z
  have shallow : PyData.depthAll ((n :: ns).map PyData.int) = 0 := PySem.W.depth_ints _
  refine PySem.W.min_tuple_data (vs := its.toArray) (x := .int n) (xs := ns.map .int) (as := as) (I.ok.hd hc) p hr alike (by
    have e : PyData.depthAll (PyData.int n :: ns.map .int) = 0 := shallow
    rw [e]; omega) fun i v h' tk bs _ rd kept => ?_
  rw [PySem.W.minD_ints] at rd
  cases rd with
  | int _ t => exact ⟨.int (ns.foldl min n), H, I.kept kept, ⟨_, rfl⟩, q⟩
def minTD : List PyData → Option PyData
  | [.tuple ds] => (match intsOf ds with
    | some (n :: ns) => some (.int (ns.foldl min n))
    | _ => none)
  | _ => none
theorem d_minT {K : PySem.W.Frag} : CaD K (rMinT K) minTD := fun F H us xs z Q s r e h => by
  unfold minTD at e
  split at e
  · split at e
    · rename_i n ns e1
      cases e
      obtain ⟨u, rfl, ru⟩ := r.one
      rw [intsOf_eq e1] at ru
      rcases ru with q | ⟨_, _, _, _, z, _⟩ | ⟨_, _, _, z, _⟩
      · cases q with
        | @tup a xs _ q1 d1 _ =>
          rw [ints_V d1] at q1
          exact ⟨a, n, ns, rfl, SqT.mono s q1, h _ F H (.refl s) (.int _)⟩
      · cases z
      · cases z
    · cases e
  · cases e
theorem bMinT {X : Cx} {k : Nat} (hr : Room k X.A) (hc : X.calm = true) : BltR X (.builtin "min") minTD := ⟨_, cr_minT hc (Room.u65 hr), d_minT⟩
/-- of a tuple or a list -/
def minJD (xs : List PyData) : Option PyData := match minTD xs with
  | some z => some z
  | none => minLD xs
theorem bMinJ {X : Cx} {k : Nat} (hr : Room k X.A) (hc : X.calm = true) : BltR X (.builtin "min") minJD :=
  ⟨fun vs H Q => rMinT X.K vs H Q ∨ rMin X.K vs H Q, fun pins s σ H vs us Q I r h => h.elim (cr_minT hc (Room.u65 hr) pins s σ H vs us Q I r) (cr_min hc pins s σ H vs us Q I r), fun F H us xs z Q s r e h => by
    unfold minJD at e
    split at e
    · rename_i z' ez
      cases e
      exact .inl (d_minT F H us xs _ Q s r ez h)
    · exact .inr (d_minL F H us xs z Q s r e h)⟩
end DV
set_option Elab.async false
set_option linter.all false
set_option maxRecDepth 100000
set_option maxHeartbeats 4000000
namespace DV
open PySem
def takenD : DS :=
  (seqS (ifS (asB (bin gtI (ixE (var 0) (cst (.int 3))) (cst (.int 0)))) (seqS (asgS 3 (bin modD (blt intD (consL (ixE (var 0) (cst (.int 3))) nilL)) (var 1)))
  (seqS (putS (bin divD (ixE (var 0) (cst (.int 3))) (var 1)) (var 0) (cst (.int 3)))
  (rtS (var 3)))) nilS)
  (seqS (putS (bin addD (ixE (var 0) (cst (.int 1))) (cst (.int 1))) (var 0) (cst (.int 1)))
  (seqS (ifS (asB (bin gtI (ixE (var 0) (cst (.int 1))) (blt lenD (consL (ixE (var 0) (cst (.int 0))) nilL)))) (seqS (putS (bin modD (blt intD (consL (bin addD (bin mulD (ixE (var 0) (cst (.int 2))) (cst (.int 48271))) (cst (.int 11))) nilL)) (cst (.int 2147483647))) (var 0) (cst (.int 2)))
  (rtS (bin modD (blt intD (consL (bin divD (ixE (var 0) (cst (.int 2))) (cst (.int 7))) nilL)) (var 1)))) nilS)
  (seqS (asgS 2 (ixE (ixE (var 0) (cst (.int 0))) (bin subD (ixE (var 0) (cst (.int 1))) (cst (.int 1)))))
  (seqS (putS (bin modD (blt intD (consL (bin addD (bin addD (bin mulD (ixE (var 0) (cst (.int 2))) (cst (.int 48271))) (var 2)) (cst (.int 11))) nilL)) (cst (.int 2147483647))) (var 0) (cst (.int 2)))
  (seqS (ifS (asB (bin geI (var 2) (bin powD (cst (.int 10)) (cst (.int 18))))) (putS (bin divD (var 2) (var 1)) (var 0) (cst (.int 3))) nilS)
  (rtS (bin modD (blt intD (consL (var 2) nilL)) (var 1)))))))))
def takenF : FnR := runR 4 2 takenD
def rowD (ns : List Int) (i m c : Int) : List PyData := [scrD ns, .int i, .int m, .int c]
def RowOk (row : List PyData) : Prop := ∃ ns i m c, row = rowD ns i m c ∧ 0 ≤ i ∧ 0 ≤ m ∧ m < 2147483647
theorem log_row {m : Int} (h0 : 0 ≤ m) (h1 : m < 2147483647) : m.natAbs.log2 + Nat.log2 48271 < 1000000 := by
  have h2 : m.natAbs.log2 < 40 := by
    by_cases z : m.natAbs = 0
    · rw [z]; decide
    · exact (Nat.log2_lt z).mpr (by omega)
  have h3 : Nat.log2 48271 < 40 := by decide +kernel
  omega
theorem taken_ok {row : List PyData} {many : Int} (hr : RowOk row) (hm : 0 < many) (hl : many.natAbs.log2 < 9000) :
    ∃ r row', takenF [.int many] row = .ok (.int r) row' ∧ RowOk row' ∧ 0 ≤ r ∧ r < many := by
  obtain ⟨ns, i, m, c, rfl, hi, h0, h1⟩ := hr
  have lg := log_row h0 h1
  have rd : ∀ z : Int, 0 ≤ z % many ∧ z % many < many := fun z => ⟨Int.emod_nonneg _ (by omega), Int.emod_lt_of_pos _ hm⟩
  have rm : ∀ z : Int, 0 ≤ z % 2147483647 ∧ z % 2147483647 < 2147483647 := fun z => ⟨Int.emod_nonneg _ (by omega), Int.emod_lt_of_pos _ (by omega)⟩
  unfold takenF takenD rowD
  by_cases hc : 0 < c
  · refine ⟨c % many, rowD ns i m (c / many), ?_, ⟨ns, i, m, _, rfl, hi, h0, h1⟩, rd c⟩
    simp [slots, seqS, ifS, asB, bin, ixE, var, cst, two, dat, okD, ixV, R.bind, thenS, gtI, ltI, leI, geI, cmpI, asgS, blt, consL, nilL, dats, intD, modD, divD, putS, putV, lstAt, rtS, frz, endR, outR, allD, nilS, addD, subD, mulD, lenD, absD, runR, runP, endP, parS, setV, fzd, fzds, L2.atI, L2.ixN, hc, hm, hl, rowD]
  · by_cases hg : (ns.length : Int) < i + 1
    · refine ⟨(m * 48271 + 11) % 2147483647 / 7 % many, rowD ns (i + 1) ((m * 48271 + 11) % 2147483647) c, ?_, ⟨ns, _, _, _, rfl, by omega, rm _⟩, rd _⟩
      have l7 : Nat.log2 7 < 9000 := by decide +kernel
      simp [slots, seqS, ifS, asB, bin, ixE, var, cst, two, dat, okD, ixV, R.bind, thenS, gtI, ltI, leI, geI, cmpI, asgS, blt, consL, nilL, dats, intD, modD, divD, putS, putV, lstAt, rtS, frz, endR, outR, allD, nilS, addD, subD, mulD, lenD, absD, runR, runP, endP, parS, setV, fzd, fzds, L2.atI, L2.ixN, hc, hm, hl, scrD, hg, lg, l7, rowD]
    · have hlt : i.toNat < ns.length := by omega
      have hx : i < (ns.length : Int) := by omega
      generalize hcell : ns[i.toNat] = cell
      have hp : powD (.int 10) (.int 18) = some (.int 1000000000000000000) := by rfl
      by_cases hb : 1000000000000000000 ≤ cell
      · refine ⟨cell % many, rowD ns (i + 1) ((m * 48271 + cell + 11) % 2147483647) (cell / many), ?_, ⟨ns, _, _, _, rfl, by omega, rm _⟩, rd _⟩
        simp [slots, seqS, ifS, asB, bin, ixE, var, cst, two, dat, okD, ixV, R.bind, thenS, gtI, ltI, leI, geI, cmpI, asgS, blt, consL, nilL, dats, intD, modD, divD, putS, putV, lstAt, rtS, frz, endR, outR, allD, nilS, addD, subD, mulD, lenD, absD, runR, runP, endP, parS, setV, fzd, fzds, L2.atI, L2.ixN, hc, hm, hl, scrD, hg, lg, hi, hx, hlt, hcell, rowD, hp, hb]
      · refine ⟨cell % many, rowD ns (i + 1) ((m * 48271 + cell + 11) % 2147483647) c, ?_, ⟨ns, _, _, _, rfl, by omega, rm _⟩, rd _⟩
        simp [slots, seqS, ifS, asB, bin, ixE, var, cst, two, dat, okD, ixV, R.bind, thenS, gtI, ltI, leI, geI, cmpI, asgS, blt, consL, nilL, dats, intD, modD, divD, putS, putV, lstAt, rtS, frz, endR, outR, allD, nilS, addD, subD, mulD, lenD, absD, runR, runP, endP, parS, setV, fzd, fzds, L2.atI, L2.ixN, hc, hm, hl, scrD, hg, lg, hi, hx, hlt, hcell, rowD, hp, hb]
def pickD : DS := (rtS (ixE (var 1) (callR takenF (var 0) (consL (blt lenD (consL (var 1) nilL)) nilL))))
def pickF : FnR := runR 2 2 pickD
theorem atI_at {α : Type} {xs : List α} {r : Int} (h0 : 0 ≤ r) (h1 : r < xs.length) : ∃ x, L2.atI xs r = some x ∧ x ∈ xs := by
  have hl : r.toNat < xs.length := by omega
  refine ⟨xs[r.toNat], ?_, List.getElem_mem hl⟩
  simp [L2.atI, L2.ixN, h0, h1]
theorem pick_ok {row : List PyData} {xs : List PyData} (hr : RowOk row) (h0 : xs ≠ []) (hl : xs.length ≤ 1000000) :
    ∃ x row', pickF [.list xs] row = .ok x row' ∧ RowOk row' ∧ x ∈ xs := by
  have h1 : 0 < xs.length := List.length_pos_iff.mpr h0
  have hlog : (xs.length : Int).natAbs.log2 < 9000 := by
    have h2 : (xs.length : Int).natAbs ≠ 0 := by omega
    have : (xs.length : Int).natAbs.log2 < 40 := (Nat.log2_lt h2).mpr (by omega)
    omega
  obtain ⟨r, row', e, ok, r0, r1⟩ := taken_ok hr (many := xs.length) (by omega) hlog
  obtain ⟨x, ex, hx⟩ := atI_at r0 r1
  refine ⟨x, row', ?_, ok, hx⟩
  unfold pickF pickD
  simp [slots, seqS, ifS, asB, bin, ixE, var, cst, two, dat, okD, ixV, R.bind, thenS, gtI, ltI, leI, geI, cmpI, asgS, blt, consL, nilL, dats, intD, modD, divD, putS, putV, lstAt, rtS, frz, endR, outR, allD, nilS, addD, subD, mulD, lenD, absD, runR, runP, endP, parS, setV, fzd, fzds, callR, frzL, e, allD_map, ex]
end DV
set_option Elab.async false
set_option linter.all false
set_option maxRecDepth 100000
set_option maxHeartbeats 4000000
namespace DV
open PySem
theorem fgo_range {slot : Nat} {g : DS} {P : Nat → Sl → Sto → Prop} {lo : Int} {cnt : Nat} (h : ∀ i sl S, i < cnt → P i sl S → ∃ sl' S', g (sl.set slot (some (.d (.int (lo + (i : Nat)))))) S = .nx sl' S' ∧ P (i + 1) sl' S') {sl : Sl} {S : Sto} (h0 : P 0 sl S) :
    ∃ sl' S', fgo (.nm slot) g (rangeL lo cnt) sl S = .nx sl' S' ∧ P cnt sl' S' := by
  have main : ∀ (k i : Nat) (sl : Sl) (S : Sto), i + k = cnt → P i sl S → ∃ sl' S', fgo (.nm slot) g ((List.range' i k).map fun i => .int (lo + (i : Nat))) sl S = .nx sl' S' ∧ P cnt sl' S' := by
    intro k
    induction k with
    | zero =>
      intro i sl S e p
      have : i = cnt := by omega
      subst this
      exact ⟨sl, S, rfl, p⟩
    | succ k ih =>
      intro i sl S e p
      obtain ⟨sl1, S1, e1, p1⟩ := h i sl S (by omega) p
      obtain ⟨sl2, S2, e2, p2⟩ := ih (i + 1) sl1 S1 (by omega) p1
      refine ⟨sl2, S2, ?_, p2⟩
      rw [List.range'_succ, List.map_cons]
      unfold fgo
      simp only [setT, e1]
      exact e2
  have := main cnt 0 sl S (by omega) h0
  unfold rangeL
  rwa [List.range_eq_range']
/-- the table M of n by n in the store, behind a row -/
def linV (n : Nat) (f : Nat → Int) : List Val := (List.range n).map fun j => .d (.int (f j))
def matS (row : List PyData) (n : Nat) (M : Nat → Nat → Int) : Sto := .lst (row.map .d) :: (((List.range n).map fun i => Ob.lst (linV n (M i))) ++ [.lst ((List.range n).map fun i => .loc (i + 1))])
def upd2 (M : Nat → Nat → Int) (i j : Nat) (v : Int) : Nat → Nat → Int := fun a b => if a = i ∧ b = j then v else M a b
section
variable {row row' : List PyData} {n i j : Nat} {M : Nat → Nat → Int} {v : Int}
theorem mat_len : (matS row n M).length = n + 2 := by simp [matS]
theorem mat_0 : (matS row n M)[0]? = some (.lst (row.map .d)) := rfl
theorem mat_i (h : i < n) : (matS row n M)[i + 1]? = some (.lst (linV n (M i))) := by
  simp [matS, List.getElem?_append, h]
theorem mat_n : (matS row n M)[n + 1]? = some (.lst ((List.range n).map fun i => .loc (i + 1))) := by
  simp [matS, List.getElem?_append]
theorem mat_set0 : (matS row n M).set 0 (.lst (row'.map .d)) = matS row' n M := rfl
theorem map_set {α : Type} (f : Nat → α) (n i : Nat) (v : α) : ((List.range n).map f).set i v = (List.range n).map fun k => if k = i then v else f k := by
  apply List.ext_getElem?
  intro k
  by_cases hk : k < n
  · by_cases e : k = i
    · subst e; simp [hk]
    · have e' : ¬ i = k := fun q => e q.symm
      simp [List.getElem?_set, e, e', hk]
  · simp [List.getElem?_set, hk]
theorem mat_set (h : i < n) : (matS row n M).set (i + 1) (.lst ((linV n (M i)).set j (.d (.int v)))) = matS row n (upd2 M i j v) := by
  unfold matS
  rw [List.set_cons_succ, List.set_append_left _ _ (by simpa using h), map_set]
  congr 2
  apply List.map_congr_left
  intro k hk
  by_cases e : k = i
  · subst e
    rw [if_pos rfl]
    unfold linV
    rw [map_set]
    congr 1
    apply List.map_congr_left
    intro q hq
    unfold upd2
    by_cases e2 : q = j
    · simp [e2]
    · simp [e2]
  · rw [if_neg e]
    congr 1
    unfold linV
    apply List.map_congr_left
    intro q hq
    simp [upd2, e]
theorem lin_len {f : Nat → Int} : (linV n f).length = n := by simp [linV]
theorem ixN_of {n i : Nat} (h : i < n) : L2.ixN n (i : Int) = some i := by
  have : (i : Int) < n := by omega
  simp [L2.ixN, this]
theorem atI_map {α : Type} (f : Nat → α) {n i : Nat} (h : i < n) : L2.atI ((List.range n).map f) (i : Int) = some (f i) := by
  unfold L2.atI
  rw [List.length_map, List.length_range, ixN_of h]
  simp [h]
theorem mat_ix (h : i < n) : ixV (matS row n M) (.loc (n + 1)) (.d (.int i)) = .ok (.loc (i + 1)) (matS row n M) := by
  unfold ixV
  simp only [mat_n, atI_map _ h]
theorem mat_put (hi : i < n) (hj : j < n) : putV (matS row n M) (.loc (i + 1)) (.d (.int j)) (.d (.int v)) = some (matS row n (upd2 M i j v)) := by
  unfold putV lstAt
  simp only [mat_i hi, lin_len, ixN_of hj, mat_set hi]
theorem mat_lst0 : lstAt (matS row n M) (.loc 0) = some (0, row.map .d) := by
  unfold lstAt
  simp only [mat_0]
end
/-- turned about, small -/
def Skew (b : Int) (M : Nat → Nat → Int) : Prop := ∀ i j, M j i = -M i j ∧ -b ≤ M i j ∧ M i j ≤ b
theorem Skew.put {b : Int} {M : Nat → Nat → Int} (h : Skew b M) {y z : Nat} (hn : y ≠ z) {v : Int} (h1 : -b ≤ v) (h2 : v ≤ b) : Skew b (upd2 (upd2 M y z v) z y (0 - v)) := by
  intro i j
  obtain ⟨a1, a2, a3⟩ := h i j
  unfold upd2
  by_cases e1 : i = y ∧ j = z
  · obtain ⟨rfl, rfl⟩ := e1
    have : ¬ (i = j ∧ j = i) := fun q => hn q.1
    simp [this]
    omega
  · by_cases e2 : i = z ∧ j = y
    · obtain ⟨rfl, rfl⟩ := e2
      have : ¬ (j = i ∧ i = j) := fun q => hn q.1
      simp [this]
      omega
    · have e1' : ¬ (j = z ∧ i = y) := fun q => e1 ⟨q.2, q.1⟩
      have e2' : ¬ (j = y ∧ i = z) := fun q => e2 ⟨q.2, q.1⟩
      simp only [if_neg e1, if_neg e2, if_neg e1', if_neg e2']
      exact ⟨a1, a2, a3⟩
theorem Skew.zero {b : Int} (h : 0 ≤ b) : Skew b fun _ _ => 0 := fun _ _ => ⟨rfl, by show -b ≤ (0 : Int); omega, h⟩
/-! freezing the table -/
def webD (n : Nat) (M : Nat → Nat → Int) : PyData := .tuple ((List.range n).map fun i => .tuple ((List.range n).map fun j => .int (M i j)))
def linD (n : Nat) (f : Nat → Int) : List PyData := (List.range n).map fun j => .int (f j)
theorem linV_eq (n : Nat) (f : Nat → Int) : linV n f = (linD n f).map .d := by simp [linV, linD]
def matK (row : List PyData) (n : Nat) (M : Nat → Nat → Int) (k : Nat) : Sto := .lst (row.map .d) :: (((List.range n).map fun i => if i < k then Ob.frz (linD n (M i)) else Ob.lst (linV n (M i))) ++ [.lst ((List.range n).map fun i => .loc (i + 1))])
theorem matK_0 {row : List PyData} {n : Nat} {M : Nat → Nat → Int} : matK row n M 0 = matS row n M := by simp [matK, matS]
theorem matK_i {row : List PyData} {n i k : Nat} {M : Nat → Nat → Int} (h : i < n) : (matK row n M k)[i + 1]? = some (if i < k then Ob.frz (linD n (M i)) else Ob.lst (linV n (M i))) := by
  simp [matK, List.getElem?_append, h]
theorem matK_n {row : List PyData} {n k : Nat} {M : Nat → Nat → Int} : (matK row n M k)[n + 1]? = some (.lst ((List.range n).map fun i => .loc (i + 1))) := by
  simp [matK, List.getElem?_append]
theorem eachS_d (f : Sto → Val → Option Sto) (hf : ∀ S x, f S (.d x) = some S) (S : Sto) : ∀ ds : List PyData, eachS f S (ds.map .d) = some S
  | [] => rfl
  | d :: ds => by simp only [List.map_cons, eachS, hf, eachS_d f hf S ds]
theorem fzds_d (S : Sto) : ∀ ds : List PyData, fzds S (ds.map .d) = some ds
  | [] => rfl
  | d :: ds => by simp only [List.map_cons, fzds, fzd, fzds_d S ds]
theorem frzS_line {S : Sto} {k : Nat} {m : Nat} {ds : List PyData} (h : S[k]? = some (.lst (ds.map .d))) : frzS (m + 2) S (.loc k) = some (S.set k (.frz ds)) := by
  have e : eachS (frzS (m + 1)) S (ds.map .d) = some S := eachS_d _ (fun S x => by simp [frzS]) S ds
  unfold frzS
  simp only [h, e, fzds_d]
theorem frz_line {row : List PyData} {n i : Nat} {M : Nat → Nat → Int} (h : i < n) : frzS 3 (matK row n M i) (.loc (i + 1)) = some (matK row n M (i + 1)) := by
  have e : (matK row n M i)[i + 1]? = some (.lst ((linD n (M i)).map .d)) := by rw [matK_i h, if_neg (Nat.lt_irrefl i), linV_eq]
  rw [frzS_line e]
  congr 1
  unfold matK
  rw [List.set_cons_succ, List.set_append_left _ _ (by simpa using h), map_set]
  congr 2
  apply List.map_congr_left
  intro q hq
  by_cases e1 : q = i
  · subst e1; simp
  · rw [if_neg e1]
    by_cases e2 : q < i
    · rw [if_pos e2, if_pos (by omega)]
    · rw [if_neg e2, if_neg (by omega)]
theorem frz_lines {row : List PyData} {n : Nat} {M : Nat → Nat → Int} : ∀ (k i : Nat), i + k ≤ n → eachS (frzS 3) (matK row n M i) ((List.range' i k).map fun i => .loc (i + 1)) = some (matK row n M (i + k))
  | 0, i, _ => rfl
  | k + 1, i, h => by
    rw [List.range'_succ, List.map_cons]
    have e1 := frz_line (row := row) (M := M) (show i < n by omega)
    have e2 := frz_lines (row := row) (M := M) (n := n) k (i + 1) (by omega)
    unfold eachS
    simp only [e1, e2]
    rw [show i + 1 + k = i + (k + 1) by omega]
theorem fzds_map {S : Sto} (g : Nat → Val) (f : Nat → PyData) : ∀ l : List Nat, (∀ i ∈ l, fzd S (g i) = some (f i)) → fzds S (l.map g) = some (l.map f)
  | [], _ => rfl
  | a :: l, h => by
    simp only [List.map_cons, fzds, h a (List.mem_cons_self), fzds_map g f l fun i hi => h i (List.mem_cons_of_mem _ hi)]
theorem frz_mat {row : List PyData} {n : Nat} {M : Nat → Nat → Int} : ∃ S', frz (matS row n M) (.loc (n + 1)) = some (.list ((List.range n).map fun i => .list (linD n (M i))), S') ∧ S'[0]? = some (.lst (row.map .d)) := by
  have e1 := frz_lines (row := row) (M := M) (n := n) n 0 (by omega)
  rw [← List.range_eq_range', matK_0, Nat.zero_add] at e1
  have e2 : fzds (matK row n M n) ((List.range n).map fun i => .loc (i + 1)) = some ((List.range n).map fun i => .list (linD n (M i))) := by
    apply fzds_map
    intro i hi
    have hi' : i < n := List.mem_range.mp hi
    simp only [fzd, matK_i hi', if_pos hi']
  refine ⟨(matK row n M n).set (n + 1) (.frz ((List.range n).map fun i => .list (linD n (M i)))), ?_, ?_⟩
  · unfold frz frzS
    simp only [mat_n, e1, matK_n, e2]
    have hl : n + 1 < (matK row n M n).length := by simp [matK]
    simp [fzd, hl]
  · simp [matK]
/-! comprehensions that change nothing -/
theorem lcGo_map {slot : Nat} {tt : DB} {el : DE} {sl : Sl} {S : Sto} {p : PyData → Bool} {f : PyData → PyData} : ∀ (ds : List PyData) (n : Nat), (∀ d ∈ ds, tt (sl.set slot (some (.d d))) S = .ok (p d) S) → (∀ d ∈ ds, p d = true → el (sl.set slot (some (.d d))) S = .ok (.d (f d)) S) → n + ds.length ≤ sizeLine →
    lcGo (.nm slot) tt el sl n ds S = .ok (((ds.filter p).map f).map .d) S
  | [], _, _, _, _ => rfl
  | d :: ds, n, h1, h2, h3 => by
    have i1 := h1 d List.mem_cons_self
    simp only [List.length_cons] at h3
    unfold lcGo
    simp only [setT, i1, nb]
    by_cases c : p d = true
    · have i2 := h2 d List.mem_cons_self c
      have ih := lcGo_map ds (n + 1) (fun d hd => h1 d (List.mem_cons_of_mem _ hd)) (fun d hd => h2 d (List.mem_cons_of_mem _ hd)) (by omega)
      simp [c, i2, show n < sizeLine by omega, ih, R.bind, List.filter_cons]
    · have ih := lcGo_map ds n (fun d hd => h1 d (List.mem_cons_of_mem _ hd)) (fun d hd => h2 d (List.mem_cons_of_mem _ hd)) (by omega)
      simp [c, ih, List.filter_cons]
theorem lcGo_yes {slot : Nat} {el : DE} {sl : Sl} {S : Sto} {f : PyData → PyData} (ds : List PyData) (n : Nat) (h : ∀ d ∈ ds, el (sl.set slot (some (.d d))) S = .ok (.d (f d)) S) (hn : n + ds.length ≤ sizeLine) : lcGo (.nm slot) yes el sl n ds S = .ok ((ds.map f).map .d) S := by
  have := lcGo_map (p := fun _ => true) (f := f) ds n (tt := yes) (fun _ _ => rfl) (fun d hd _ => h d hd) hn
  rw [List.filter_eq_self.mpr (fun _ _ => rfl)] at this
  exact this
end DV
set_option Elab.async false
set_option linter.all false
set_option maxRecDepth 100000
set_option maxHeartbeats 4000000
namespace DV
open PySem
section
variable {g g2 : DS} {f fa fb fc : DE} {la : DL} {lg : DF} {c c2 : DB} {sl sl1 : Sl} {S S1 S2 S3 : Sto} {r : RS} {x y z : Val} {d d1 d2 d3 : PyData} {ds : List PyData} {xs : List Val} {i : Nat} {b : Bool}
theorem z_seq (h : g sl S = .nx sl1 S1) (h2 : g2 sl1 S1 = r) : seqS g g2 sl S = r := by
  show (match g sl S with | .nx sl' S' => g2 sl' S' | r => r) = r
  rw [h]; exact h2
theorem z_seqR (h : g sl S = .rt d S1) : seqS g g2 sl S = .rt d S1 := by
  show (match g sl S with | .nx sl' S' => g2 sl' S' | r => r) = _
  rw [h]
theorem z_asg (h : f sl S = .ok x S1) : asgS i f sl S = .nx (sl.set i (some x)) S1 := by
  show thenS (f sl S) sl _ = _
  rw [h]; rfl
theorem z_ex (h : f sl S = .ok x S1) : exS f sl S = .nx sl S1 := by
  show thenS (f sl S) sl _ = _
  rw [h]; rfl
theorem z_if (h : c sl S = .ok b S1) (h2 : (if b = true then g sl S1 else g2 sl S1) = r) : ifS c g g2 sl S = r := by
  show thenS (c sl S) sl _ = _
  rw [h]; exact h2
theorem z_ifT (h : c sl S = .ok true S1) (h2 : g sl S1 = r) : ifS c g g2 sl S = r := z_if h h2
theorem z_ifF (h : c sl S = .ok false S1) (h2 : g2 sl S1 = r) : ifS c g g2 sl S = r := z_if h h2
theorem z_rt (h : f sl S = .ok (.d d) S1) : rtS f sl S = .rt d S1 := by
  show thenS (f sl S) sl _ = _
  rw [h]; rfl
theorem z_rtL (h : f sl S = .ok x S1) (h2 : frz S1 x = some (d, S2)) : rtS f sl S = .rt d S2 := by
  show thenS (f sl S) sl _ = _
  rw [h]
  show (match frz S1 x with | some (d, S2) => RS.rt d S2 | none => .bad) = _
  rw [h2]
theorem z_for {it : IT} {tg : Tg} (h : it sl S = .ok ds S1) (h2 : fgo tg g ds sl S1 = r) : forS it tg g sl S = r := by
  show thenS (it sl S) sl _ = _
  rw [h]; exact h2
theorem z_own (h : lg sl S = .ok xs S1) : ownE lg sl S = .ok (.loc S1.length) (S1 ++ [.lst xs]) := by
  show (lg sl S).bind _ = _
  rw [h]; rfl
theorem frzL_d (S : Sto) : ∀ ds : List PyData, frzL S (ds.map .d) = some (ds, S)
  | [] => rfl
  | d :: ds => by simp only [List.map_cons, frzL, frz, frzL_d S ds]
theorem dats_d (S : Sto) : ∀ ds : List PyData, dats S (ds.map .d) = some ds
  | [] => rfl
  | d :: ds => by simp only [List.map_cons, dats, dat, dats_d S ds]
theorem z_frzE (h : lg sl S = .ok (ds.map .d) S1) : frzE lg sl S = .ok (.d (.list ds)) S1 := by
  show (lg sl S).bind _ = _
  rw [h]
  show (match frzL S1 (ds.map .d) with | some (ds, S2) => R.ok (Val.d (.list ds)) S2 | none => .bad) = _
  rw [frzL_d]
theorem z_sz (h : lg sl S = .ok xs S1) (h2 : xs.length ≤ sizeLine) : szF lg sl S = .ok xs S1 := by
  show (lg sl S).bind _ = _
  rw [h]
  exact if_pos h2
theorem z_nil : nilL sl S = .ok [] S := rfl
theorem z_cons (h : f sl S = .ok x S1) (h2 : la sl S1 = .ok xs S2) : consL f la sl S = .ok (x :: xs) S2 := by
  show (f sl S).bind _ = _
  rw [h]
  show (la sl S1).bind _ = _
  rw [h2]; rfl
/-- all data -/
theorem z_consD (h : f sl S = .ok (.d d) S1) (h2 : la sl S1 = .ok (ds.map .d) S2) : consL f la sl S = .ok ((d :: ds).map .d) S2 := z_cons h h2
theorem z_nilD : nilL sl S = .ok (([] : List PyData).map .d) S := rfl
theorem z_blt {gg : List PyData → Option PyData} (h : la sl S = .ok (ds.map .d) S1) (h2 : gg ds = some d) : blt gg la sl S = .ok (.d d) S1 := by
  show (la sl S).bind _ = _
  rw [h]
  show (match dats S1 (ds.map .d) with | some ds => okD (gg ds) S1 | none => .bad) = _
  rw [dats_d]
  show okD (gg ds) S1 = _
  rw [h2]; rfl
theorem z_bin {gg : PyData → PyData → Option PyData} (h : fa sl S = .ok (.d d1) S1) (h2 : fb sl S1 = .ok (.d d2) S2) (h3 : gg d1 d2 = some d) : bin gg fa fb sl S = .ok (.d d) S2 := by
  show (fa sl S).bind _ = _
  rw [h]
  show (fb sl S1).bind _ = _
  rw [h2]
  show okD (gg d1 d2) S2 = _
  rw [h3]; rfl
theorem z_un {gg : PyData → Option PyData} (h : fa sl S = .ok (.d d1) S1) (h3 : gg d1 = some d) : un gg fa sl S = .ok (.d d) S1 := by
  show (fa sl S).bind _ = _
  rw [h]
  show okD (gg d1) S1 = _
  rw [h3]; rfl
theorem z_asB (h : f sl S = .ok (.d (.bool b)) S1) : asB f sl S = .ok b S1 := by
  show (f sl S).bind _ = _
  rw [h]; rfl
theorem z_not (h : c sl S = .ok b S1) : notB c sl S = .ok (!b) S1 := by
  show (c sl S).bind _ = _
  rw [h]; rfl
theorem z_notT (h : c sl S = .ok true S1) : notB c sl S = .ok false S1 := z_not h
theorem z_notF (h : c sl S = .ok false S1) : notB c sl S = .ok true S1 := z_not h
theorem z_orT (h : c sl S = .ok true S1) : orB c c2 sl S = .ok true S1 := by
  show (c sl S).bind _ = _
  rw [h]; rfl
theorem z_orF {r : R Bool} (h : c sl S = .ok false S1) (h2 : c2 sl S1 = r) : orB c c2 sl S = r := by
  show (c sl S).bind _ = _
  rw [h]; exact h2
theorem z_andF (h : c sl S = .ok false S1) : andB c c2 sl S = .ok false S1 := by
  show (c sl S).bind _ = _
  rw [h]; rfl
theorem z_andT {r : R Bool} (h : c sl S = .ok true S1) (h2 : c2 sl S1 = r) : andB c c2 sl S = r := by
  show (c sl S).bind _ = _
  rw [h]; exact h2
theorem z_andVT {r : R Val} (h : fa sl S = .ok (.d (.bool true)) S1) (h2 : fb sl S1 = r) : andV fa fb sl S = r := by
  show (fa sl S).bind _ = _
  rw [h]; exact h2
theorem z_andVF (h : fa sl S = .ok (.d (.bool false)) S1) : andV fa fb sl S = .ok (.d (.bool false)) S1 := by
  show (fa sl S).bind _ = _
  rw [h]; rfl
theorem z_notV (h : fa sl S = .ok (.d (.bool b)) S1) : notV fa sl S = .ok (.d (.bool !b)) S1 := by
  show (fa sl S).bind _ = _
  rw [h]; rfl
theorem z_callP {Fn : FnP} (h : la sl S = .ok (ds.map .d) S1) (h2 : Fn ds = .ok d) : callP Fn la sl S = .ok (.d d) S1 := by
  show (la sl S).bind _ = _
  rw [h]
  show (match frzL S1 (ds.map .d) with | some (ds, S2) => (match Fn ds with | .ok x => R.ok (Val.d x) S2 | .er e => .er e S2 | .bad => .bad) | none => .bad) = _
  rw [frzL_d]
  show (match Fn ds with | .ok x => R.ok (Val.d x) S1 | .er e => .er e S1 | .bad => .bad) = _
  rw [h2]
theorem z_callR {Fn : FnR} {k : Nat} {row row' : List PyData} (h0 : f sl S = .ok (.loc k) S1) (hl : la sl S1 = .ok (ds.map .d) S2) (hk : S2[k]? = some (.lst (row.map .d))) (e : Fn ds row = .ok d row') :
    callR Fn f la sl S = .ok (.d d) (S2.set k (.lst (row'.map .d))) := by
  unfold callR
  rw [h0]
  simp only [R.bind]
  rw [hl]
  simp only [frzL_d, lstAt, hk, allD_map, e]
theorem z_tup (h : la sl S = .ok (ds.map .d) S1) (h2 : ds.length ≤ sizeLine) : tupE la sl S = .ok (.d (.tuple ds)) S1 := by
  show (la sl S).bind _ = _
  rw [h]
  show (match frzL S1 (ds.map .d) with | some (ds, S2) => if ds.length ≤ sizeLine then R.ok (Val.d (.tuple ds)) S2 else .bad | none => .bad) = _
  rw [frzL_d]
  exact if_pos h2
theorem z_ix (h : fa sl S = .ok x S1) (h2 : fb sl S1 = .ok y S2) {r : R Val} (h3 : ixV S2 x y = r) : ixE fa fb sl S = r := by
  show (fa sl S).bind _ = _
  rw [h]
  show (fb sl S1).bind _ = _
  rw [h2]; exact h3
theorem z_var (h : sl[i]? = some (some x)) : var i sl S = .ok x S := by
  unfold var; rw [h]
theorem z_lc {own : List Nat} {it : IT} {tg : Tg} {tt : DB} {el : DE} {q : R (List Val)} (h : it sl S = .ok ds S1) (h2 : lcGo tg tt el (wipeS sl own) 0 ds S1 = q) : lcF own it tg tt el sl S = q := by
  unfold lcF
  rw [h]
  exact h2
theorem z_seqL (h : fa sl S = .ok (.d (.list ds)) S1) : seqI fa sl S = .ok ds S1 := by
  show (fa sl S).bind _ = _
  rw [h]; rfl
theorem z_seqT (h : fa sl S = .ok (.d (.tuple ds)) S1) : seqI fa sl S = .ok ds S1 := by
  show (fa sl S).bind _ = _
  rw [h]; rfl
theorem z_chain {g1 g2' : PyData → PyData → Option PyData} (h : fa sl S = .ok (.d d1) S1) (h2 : fb sl S1 = .ok (.d d2) S2) (h3 : g1 d1 d2 = some (.bool true)) (h4 : fc sl S2 = .ok (.d d3) S3) (h5 : g2' d2 d3 = some d) : chain g1 g2' fa fb fc sl S = .ok (.d d) S3 := by
  show (fa sl S).bind _ = _
  rw [h]
  show (fb sl S1).bind _ = _
  rw [h2]
  show (okD (g1 d1 d2) S2).bind _ = _
  rw [h3]
  show (fc sl S2).bind _ = _
  rw [h4]
  show okD (g2' d2 d3) S3 = _
  rw [h5]; rfl
theorem z_chainF {g1 g2' : PyData → PyData → Option PyData} (h : fa sl S = .ok (.d d1) S1) (h2 : fb sl S1 = .ok (.d d2) S2) (h3 : g1 d1 d2 = some (.bool false)) : chain g1 g2' fa fb fc sl S = .ok (.d (.bool false)) S2 := by
  show (fa sl S).bind _ = _
  rw [h]
  show (fb sl S1).bind _ = _
  rw [h2]
  show (okD (g1 d1 d2) S2).bind _ = _
  rw [h3]; rfl
theorem z_par {is : List Nat} {sl2 : Sl} (h : la sl S = .ok xs S1) (h2 : setV is xs sl = some sl2) (h3 : is.length ≤ 1000) : parS is la sl S = .nx sl2 S1 := by
  show thenS (la sl S) sl _ = _
  rw [h]
  show (match setV is xs sl with | some sl' => if is.length ≤ 1000 then RS.nx sl' S1 else .bad | none => .bad) = _
  rw [h2]
  exact if_pos h3
theorem z_runP {n m : Nat} {args : List PyData} {q : FR} (h : args.length = m) (h2 : g (slots n (args.map .d)) [] = r) (h3 : endP r = q) : runP n m g args = q := by
  unfold runP
  rw [if_pos h, h2]; exact h3
theorem z_runR {n m : Nat} {args row : List PyData} {q : FRr} (h : args.length + 1 = m) (h2 : g (slots n (.loc 0 :: args.map .d)) [.lst (row.map .d)] = r) (h3 : endR r = q) : runR n m g args row = q := by
  unfold runR
  rw [if_pos h, h2]; exact h3
theorem z_outR {row : List PyData} (h : S[(0 : Nat)]? = some (.lst (row.map .d))) : outR d S = .ok d row := by
  unfold outR
  rw [h]
  simp only [allD_map]
theorem z_put {fv fo fi : DE} {S4 : Sto} (h : fv sl S = .ok z S1) (h2 : fo sl S1 = .ok x S2) (h3 : fi sl S2 = .ok y S3) (h4 : putV S3 x y z = some S4) : putS fv fo fi sl S = .nx sl S4 := by
  show thenS (fv sl S) sl _ = _
  rw [h]
  show thenS (fo sl S1) sl _ = _
  rw [h2]
  show thenS (fi sl S2) sl _ = _
  rw [h3]
  show (match putV S3 x y z with | some S4 => RS.nx sl S4 | none => .bad) = _
  rw [h4]
theorem z_put2 {fv fo fi fo2 fi2 : DE} {S4 S5 S6 S7 : Sto} {x2 y2 : Val} (h : fv sl S = .ok (.d (.tuple [d1, d2])) S1) (h2 : fo sl S1 = .ok x S2) (h3 : fi sl S2 = .ok y S3) (h4 : putV S3 x y (.d d1) = some S4)
    (h5 : fo2 sl S4 = .ok x2 S5) (h6 : fi2 sl S5 = .ok y2 S6) (h7 : putV S6 x2 y2 (.d d2) = some S7) : put2S fv fo fi fo2 fi2 sl S = .nx sl S7 := by
  unfold put2S
  rw [h]
  show thenS (fo sl S1) sl _ = _
  rw [h2]
  show thenS (fi sl S2) sl _ = _
  rw [h3]
  simp only [thenS, h4]
  rw [h5]
  simp only []
  rw [h6]
  simp only [h7]
theorem z_lst1 (h : fa sl S = .ok (.d (.tuple ds)) S1) : lstF fa sl S = .ok (ds.map .d) S1 := by
  show (fa sl S).bind _ = _
  rw [h]; rfl
end
end DV
set_option Elab.async false
set_option linter.all false
set_option maxRecDepth 100000
set_option maxHeartbeats 4000000
namespace DV
open PySem
def webLoop1 : DS := forS (rng1 (consL (var 6) nilL)) (.nm 7) (seqS (asgS 9 (cst (.int 0)))
  (seqS (ifS (asB (bin ltI (var 4) (cst (.int 2)))) (asgS 9 (bin mulD (callR pickF (var 0) (consL (frzE (szF (consL (cst (.int 0)) (consL (cst (.int 0)) (consL (cst (.int 1)) (consL (bin subD (cst (.int 0)) (cst (.int 1))) nilL)))))) nilL)) (bin addD (cst (.int 1)) (callR takenF (var 0) (consL (var 2) nilL))))) (ifS (asB (bin eqD (var 4) (cst (.int 2)))) (asgS 9 (bin mulD (callR pickF (var 0) (consL (frzE (szF (consL (cst (.int 1)) (consL (bin subD (cst (.int 0)) (cst (.int 1))) nilL)))) nilL)) (blt intD (consL (bin eqD (var 7) (bin subD (var 6) (cst (.int 1)))) nilL)))) (ifS (asB (bin eqD (var 4) (cst (.int 3)))) (asgS 9 (bin subD (blt intD (consL (bin eqD (var 7) (bin subD (var 6) (cst (.int 1)))) nilL)) (blt intD (consL (andV (bin eqD (var 7) (cst (.int 0))) (andV (bin eqD (var 6) (bin subD (var 3) (cst (.int 1)))) (bin gtI (var 3) (cst (.int 2))))) nilL)))) nilS)))
  (put2S (tupE (consL (var 9) (consL (bin subD (cst (.int 0)) (var 9)) nilL))) (ixE (var 5) (var 7)) (var 6) (ixE (var 5) (var 6)) (var 7))))
def webLoop2 : DS := forS (rng2 (consL (cst (.int 1)) (consL (var 3) nilL))) (.nm 6) (seqS (parS [7, 9] (consL (callR takenF (var 0) (consL (var 6) nilL)) (consL (callR pickF (var 0) (consL (frzE (szF (consL (cst (.int 1)) (consL (bin subD (cst (.int 0)) (cst (.int 1))) nilL)))) nilL)) nilL)))
  (put2S (tupE (consL (var 9) (consL (bin subD (cst (.int 0)) (var 9)) nilL))) (ixE (var 5) (var 7)) (var 6) (ixE (var 5) (var 6)) (var 7)))
def webD1 : DS :=
  (seqS (parS [3, 4] (consL (bin addD (cst (.int 1)) (callR takenF (var 0) (consL (var 1) nilL))) (consL (callR takenF (var 0) (consL (cst (.int 5)) nilL)) nilL)))
  (seqS (asgS 5 (ownE (lcF [8] (rng1 (consL (var 3) nilL)) (.nm 8) yes (ownE (repF (frzE (szF (consL (cst (.int 0)) nilL))) (var 3))))))
  (seqS (forS (rng2 (consL (cst (.int 1)) (consL (var 3) nilL))) (.nm 6) webLoop1)
  (seqS (ifS (asB (bin eqD (var 4) (cst (.int 4)))) webLoop2 nilS)
  (rtS (blt tupD (consL (frzE (lcF [10] (seqI (var 5)) (.nm 10) yes (blt tupD (consL (var 10) nilL)))) nilL)))))))
def webF : FnR := runR 11 3 webD1
theorem sz_ge (n : Nat) (h : n ≤ 1000) : n ≤ sizeLine := by rw [sizeLine_eq]; omega
theorem eqD_int (i j : Int) : eqD (.int i) (.int j) = some (.bool (decide (i = j))) := by
  unfold eqD
  simp [SeqAt.shaped, PyData.canLay0, PyData.depth, PyData.eqv]
  rfl
theorem put2_ok {row : List PyData} {n y z : Nat} {M : Nat → Nat → Int} {v : Int} (hy : y < n) (hz : z < n) {a1 a2 a3 a4 a8 a10 : Option Val} :
    put2S (tupE (consL (var 9) (consL (bin subD (cst (.int 0)) (var 9)) nilL))) (ixE (var 5) (var 7)) (var 6) (ixE (var 5) (var 6)) (var 7) [some (.loc 0), a1, a2, a3, a4, some (.loc (n + 1)), some (.d (.int z)), some (.d (.int y)), a8, some (.d (.int v)), a10] (matS row n M) =
      .nx [some (.loc 0), a1, a2, a3, a4, some (.loc (n + 1)), some (.d (.int z)), some (.d (.int y)), a8, some (.d (.int v)), a10] (matS row n (upd2 (upd2 M y z v) z y (0 - v))) := by
  have h2 : (2 : Nat) ≤ sizeLine := sz_ge 2 (by decide)
  simp [put2S, tupE, frzL, frz, consL, nilL, var, cst, bin, two, dat, subD, okD, R.bind, thenS, ixE, mat_ix hy, mat_ix hz, mat_put hy hz, mat_put hz hy, h2]
theorem log_small {a : Int} (h : -1000000 ≤ a) (h2 : a ≤ 1000000) : a.natAbs.log2 < 64 := by
  by_cases z : a.natAbs = 0
  · rw [z]; decide
  · exact (Nat.log2_lt z).mpr (by omega)
theorem mulD_small {a b : Int} (h : -1000000 ≤ a) (h2 : a ≤ 1000000) (h3 : -1000000 ≤ b) (h4 : b ≤ 1000000) : mulD (.int a) (.int b) = some (.int (a * b)) := by
  have := log_small h h2
  have := log_small h3 h4
  unfold mulD
  simp only []
  rw [if_pos (by omega)]
theorem frz4 {sl : Sl} {S : Sto} : frzE (szF (consL (cst (.int 0)) (consL (cst (.int 0)) (consL (cst (.int 1)) (consL (bin subD (cst (.int 0)) (cst (.int 1))) nilL))))) sl S = .ok (.d (.list [.int 0, .int 0, .int 1, .int (-1)])) S := by
  have h2 : (4 : Nat) ≤ sizeLine := sz_ge 4 (by decide)
  simp [frzE, szF, frzL, frz, consL, nilL, cst, bin, two, dat, subD, okD, R.bind, h2]
theorem frz2 {sl : Sl} {S : Sto} : frzE (szF (consL (cst (.int 1)) (consL (bin subD (cst (.int 0)) (cst (.int 1))) nilL))) sl S = .ok (.d (.list [.int 1, .int (-1)])) S := by
  have h2 : (2 : Nat) ≤ sizeLine := sz_ge 2 (by decide)
  simp [frzE, szF, frzL, frz, consL, nilL, cst, bin, two, dat, subD, okD, R.bind, h2]
theorem callR_mat {Fn : FnR} {row row' : List PyData} {n : Nat} {M : Nat → Nat → Int} {r : List (Option Val)} {la : DL} {d z : PyData} (hl : la (some (.loc 0) :: r) (matS row n M) = .ok [.d d] (matS row n M)) (e : Fn [d] row = .ok z row') :
    callR Fn (var 0) la (some (.loc 0) :: r) (matS row n M) = .ok (.d z) (matS row' n M) := by
  simp [callR, var, R.bind, hl, frzL, frz, mat_lst0, allD_map, e, mat_set0]
theorem pick4 {row : List PyData} (hr : RowOk row) : ∃ v row', pickF [.list [.int 0, .int 0, .int 1, .int (-1)]] row = .ok (.int v) row' ∧ RowOk row' ∧ -1 ≤ v ∧ v ≤ 1 := by
  obtain ⟨x, row', e, ok, hx⟩ := pick_ok hr (xs := [.int 0, .int 0, .int 1, .int (-1)]) (by simp) (by simp)
  simp only [List.mem_cons, List.not_mem_nil, or_false] at hx
  rcases hx with rfl | rfl | rfl | rfl <;> exact ⟨_, row', e, ok, by decide, by decide⟩
theorem pick2 {row : List PyData} (hr : RowOk row) : ∃ v row', pickF [.list [.int 1, .int (-1)]] row = .ok (.int v) row' ∧ RowOk row' ∧ -1 ≤ v ∧ v ≤ 1 := by
  obtain ⟨x, row', e, ok, hx⟩ := pick_ok hr (xs := [.int 1, .int (-1)]) (by simp) (by simp)
  simp only [List.mem_cons, List.not_mem_nil, or_false] at hx
  rcases hx with rfl | rfl <;> exact ⟨_, row', e, ok, by decide, by decide⟩
def webSl (most strong n way : Int) (m : Nat) (z y v : Option Val) : Sl := [some (.loc 0), some (.d (.int most)), some (.d (.int strong)), some (.d (.int n)), some (.d (.int way)), some (.loc (m + 1)), z, y, none, v, none]
/-- the choice of one arrow -/
theorem arrow_ok {row : List PyData} {m : Nat} {M : Nat → Nat → Int} {most strong n way z y : Int} (hr : RowOk row) (h1 : 1 ≤ strong) (h2 : strong ≤ 1000) :
    ∃ v row', (ifS (asB (bin ltI (var 4) (cst (.int 2)))) (asgS 9 (bin mulD (callR pickF (var 0) (consL (frzE (szF (consL (cst (.int 0)) (consL (cst (.int 0)) (consL (cst (.int 1)) (consL (bin subD (cst (.int 0)) (cst (.int 1))) nilL)))))) nilL)) (bin addD (cst (.int 1)) (callR takenF (var 0) (consL (var 2) nilL))))) (ifS (asB (bin eqD (var 4) (cst (.int 2)))) (asgS 9 (bin mulD (callR pickF (var 0) (consL (frzE (szF (consL (cst (.int 1)) (consL (bin subD (cst (.int 0)) (cst (.int 1))) nilL)))) nilL)) (blt intD (consL (bin eqD (var 7) (bin subD (var 6) (cst (.int 1)))) nilL)))) (ifS (asB (bin eqD (var 4) (cst (.int 3)))) (asgS 9 (bin subD (blt intD (consL (bin eqD (var 7) (bin subD (var 6) (cst (.int 1)))) nilL)) (blt intD (consL (andV (bin eqD (var 7) (cst (.int 0))) (andV (bin eqD (var 6) (bin subD (var 3) (cst (.int 1)))) (bin gtI (var 3) (cst (.int 2))))) nilL)))) nilS)))
      (webSl most strong n way m (some (.d (.int z))) (some (.d (.int y))) (some (.d (.int 0)))) (matS row m M) = .nx (webSl most strong n way m (some (.d (.int z))) (some (.d (.int y))) (some (.d (.int v)))) (matS row' m M) ∧ RowOk row' ∧ -strong ≤ v ∧ v ≤ strong := by
  have hls : strong.natAbs.log2 < 9000 := Nat.lt_trans (log_small (by omega) (by omega)) (by decide)
  by_cases c1 : way < 2
  · obtain ⟨p, row1, e1, ok1, p0, p1⟩ := pick4 hr
    obtain ⟨r, row2, e2, ok2, r0, r1⟩ := taken_ok ok1 (many := strong) (by omega) hls
    have k1 := callR_mat (n := m) (M := M) (r := [some (.d (.int most)), some (.d (.int strong)), some (.d (.int n)), some (.d (.int way)), some (.loc (m + 1)), some (.d (.int z)), some (.d (.int y)), none, some (.d (.int 0)), none]) (la := consL (frzE (szF (consL (cst (.int 0)) (consL (cst (.int 0)) (consL (cst (.int 1)) (consL (bin subD (cst (.int 0)) (cst (.int 1))) nilL)))))) nilL) (by simp [consL, nilL, frz4, R.bind]) e1
    have k2 := callR_mat (n := m) (M := M) (r := [some (.d (.int most)), some (.d (.int strong)), some (.d (.int n)), some (.d (.int way)), some (.loc (m + 1)), some (.d (.int z)), some (.d (.int y)), none, some (.d (.int 0)), none]) (la := consL (var 2) nilL) (by simp [consL, nilL, var, R.bind]) e2
    have k3 := mulD_small (a := p) (b := 1 + r) (by omega) (by omega) (by omega) (by omega)
    refine ⟨p * (1 + r), row2, ?_, ok2, ?_⟩
    · simp [ifS, asB, bin, var, cst, two, dat, ltI, cmpI, okD, R.bind, thenS, c1, asgS, webSl, k1, k2, k3, addD]
    · have : p = -1 ∨ p = 0 ∨ p = 1 := by omega
      rcases this with rfl | rfl | rfl <;> omega
  · by_cases c2 : way = 2
    · obtain ⟨p, row1, e1, ok1, p0, p1⟩ := pick2 hr
      have k1 := callR_mat (n := m) (M := M) (r := [some (.d (.int most)), some (.d (.int strong)), some (.d (.int n)), some (.d (.int way)), some (.loc (m + 1)), some (.d (.int z)), some (.d (.int y)), none, some (.d (.int 0)), none]) (la := consL (frzE (szF (consL (cst (.int 1)) (consL (bin subD (cst (.int 0)) (cst (.int 1))) nilL)))) nilL) (by simp [consL, nilL, frz2, R.bind]) e1
      have k3 := mulD_small (a := p) (b := if y = z - 1 then 1 else 0) (by omega) (by omega) (by split <;> omega) (by split <;> omega)
      refine ⟨p * (if y = z - 1 then 1 else 0), row1, ?_, ok1, ?_⟩
      · subst c2
        simp [ifS, asB, bin, var, cst, two, dat, ltI, cmpI, okD, R.bind, thenS, asgS, webSl, k1, eqD_int, subD, blt, consL, nilL, dats, intD, k3]
      · split <;> omega
    · by_cases c3 : way = 3
      · refine ⟨(if y = z - 1 then 1 else 0) - (if y = 0 ∧ z = n - 1 ∧ 2 < n then 1 else 0), row, ?_, hr, ?_⟩
        · subst c3
          by_cases d1 : y = 0
          · by_cases d2 : z = n - 1
            · simp [ifS, asB, bin, var, cst, two, dat, ltI, cmpI, okD, R.bind, thenS, asgS, webSl, eqD_int, subD, blt, consL, nilL, dats, intD, andV, gtI, d1, d2]
            · simp [ifS, asB, bin, var, cst, two, dat, ltI, cmpI, okD, R.bind, thenS, asgS, webSl, eqD_int, subD, blt, consL, nilL, dats, intD, andV, gtI, d1, d2]
          · simp [ifS, asB, bin, var, cst, two, dat, ltI, cmpI, okD, R.bind, thenS, asgS, webSl, eqD_int, subD, blt, consL, nilL, dats, intD, andV, gtI, d1]
        · split <;> split <;> omega
      · refine ⟨0, row, ?_, hr, by omega, by omega⟩
        simp [ifS, asB, bin, var, cst, two, dat, ltI, cmpI, okD, R.bind, thenS, asgS, webSl, eqD_int, c1, c2, c3, nilS]
theorem two62 : (2 : Int) ^ 62 = 4611686018427387904 := by decide +kernel
theorem lt62 {k : Nat} (hk : k ≤ 1000000) : ((k : Nat) : Int) < 2 ^ 62 := by rw [two62]; omega
theorem ge62 {k : Nat} : -(2 ^ 62) ≤ ((k : Nat) : Int) := by rw [two62]; omega
theorem rngc (j : Int) (S : Sto) (h2 : j < 2 ^ 62) (h3 : -(2 ^ 62) ≤ j) : (if decide (-(2 ^ 62) ≤ j) && decide (j < 2 ^ 62) then R.ok (rangeL 0 j.toNat) S else .bad) = .ok (rangeL 0 j.toNat) S := by
  rw [decide_eq_true h2, decide_eq_true h3]
  rfl
theorem rng1_ok' {la : DL} {sl : Sl} {S : Sto} {j : Int} (h : la sl S = .ok [.d (.int j)] S) (h2 : j < 2 ^ 62) (h3 : -(2 ^ 62) ≤ j) : rng1 la sl S = .ok (rangeL 0 j.toNat) S := by
  unfold rng1
  rw [h]
  exact rngc j S h2 h3
theorem rng1_ok {la : DL} {sl : Sl} {S : Sto} {k : Nat} (h : la sl S = .ok [.d (.int k)] S) (hk : k ≤ 1000000) : rng1 la sl S = .ok (rangeL 0 k) S := by
  have := rng1_ok' h (lt62 hk) ge62
  rwa [Int.toNat_natCast] at this
theorem rngc2 (i j : Int) (S : Sto) (h2 : j < 2 ^ 62) (h3 : -(2 ^ 62) ≤ j) (h4 : i < 2 ^ 62) (h5 : -(2 ^ 62) ≤ i) : (if decide (-(2 ^ 62) ≤ i) && decide (i < 2 ^ 62) && decide (-(2 ^ 62) ≤ j) && decide (j < 2 ^ 62) then R.ok (rangeL i (j - i).toNat) S else .bad) = .ok (rangeL i (j - i).toNat) S := by
  rw [decide_eq_true h2, decide_eq_true h3, decide_eq_true h4, decide_eq_true h5]
  rfl
theorem rng2_ok' {la : DL} {sl : Sl} {S : Sto} {i j : Int} (h : la sl S = .ok [.d (.int i), .d (.int j)] S) (h2 : j < 2 ^ 62) (h3 : -(2 ^ 62) ≤ j) (h4 : i < 2 ^ 62) (h5 : -(2 ^ 62) ≤ i) : rng2 la sl S = .ok (rangeL i (j - i).toNat) S := by
  unfold rng2
  rw [h]
  exact rngc2 i j S h2 h3 h4 h5
theorem rng2_ok {la : DL} {sl : Sl} {S : Sto} {i k : Nat} (h : la sl S = .ok [.d (.int i), .d (.int k)] S) (hi : i ≤ 1000000) (hk : k ≤ 1000000) : rng2 la sl S = .ok (rangeL i (k - i)) S := by
  have := rng2_ok' h (lt62 hk) ge62 (lt62 hi) ge62
  rwa [show ((k : Int) - (i : Int)).toNat = k - i by omega] at this
theorem consL_ok {f : DE} {g : DL} {sl : Sl} {S S1 S2 : Sto} {x : Val} {xs : List Val} (h : f sl S = .ok x S1) (h2 : g sl S1 = .ok xs S2) : consL f g sl S = .ok (x :: xs) S2 := by
  unfold consL
  rw [h]
  simp only [R.bind]
  rw [h2]
def WebP (most strong way : Int) (m : Nat) (z : Option Val) (sl : Sl) (S : Sto) : Prop := ∃ row M y v, sl = webSl most strong m way m z y v ∧ S = matS row m M ∧ RowOk row ∧ Skew strong M
theorem loop1_ok {most strong way : Int} {m z : Nat} (hz : z < m) (hm : m ≤ 1000) (h1 : 1 ≤ strong) (h2 : strong ≤ 1000) {sl : Sl} {S : Sto} (h : WebP most strong way m (some (.d (.int z))) sl S) :
    ∃ sl' S', webLoop1 sl S = .nx sl' S' ∧ WebP most strong way m (some (.d (.int z))) sl' S' := by
  have e0 : rng1 (consL (var 6) nilL) sl S = .ok (rangeL 0 z) S := by
    obtain ⟨row, M, y, v, rfl, rfl, hr, hs⟩ := h
    exact rng1_ok (by simp [consL, nilL, var, R.bind, webSl]) (by omega)
  unfold webLoop1 forS
  rw [e0]
  simp only [thenS]
  refine fgo_range (P := fun _ sl S => WebP most strong way m (some (.d (.int z))) sl S) (fun i sl S hi hp => ?_) h
  obtain ⟨row, M, y, v, rfl, rfl, hr, hs⟩ := hp
  obtain ⟨v', row', e, ok, v0, v1⟩ := arrow_ok (m := m) (M := M) (most := most) (n := m) (way := way) (z := z) (y := i) hr h1 h2
  have hi' : i < m := by omega
  refine ⟨webSl most strong m way m (some (.d (.int z))) (some (.d (.int i))) (some (.d (.int v'))), matS row' m (upd2 (upd2 M i z v') z i (0 - v')), ?_, row', _, _, _, rfl, rfl, ok, hs.put (by omega) v0 v1⟩
  have e1 : asgS 9 (cst (.int 0)) ((webSl most strong m way m (some (.d (.int z))) y v).set 7 (some (.d (.int (0 + (i : Nat)))))) (matS row m M) = .nx (webSl most strong m way m (some (.d (.int z))) (some (.d (.int i))) (some (.d (.int 0)))) (matS row m M) := by
    simp [asgS, cst, thenS, webSl]
  unfold seqS
  rw [e1]
  simp only []
  rw [e]
  simp only []
  unfold webSl
  exact put2_ok hi' hz
theorem loop2_ok {most strong way : Int} {m : Nat} (hm : m ≤ 1000) (h1 : 1 ≤ strong) {z0 : Option Val} {sl : Sl} {S : Sto} (h : WebP most strong way m z0 sl S) :
    ∃ z sl' S', webLoop2 sl S = .nx sl' S' ∧ WebP most strong way m z sl' S' := by
  have e0 : rng2 (consL (cst (.int 1)) (consL (var 3) nilL)) sl S = .ok (rangeL (1 : Nat) (m - 1)) S := by
    obtain ⟨row, M, y, v, rfl, rfl, hr, hs⟩ := h
    exact rng2_ok (by simp [consL, nilL, var, cst, R.bind, webSl]) (by omega) (by omega)
  unfold webLoop2 forS
  rw [e0]
  simp only [thenS]
  have := fgo_range (slot := 6) (lo := (1 : Nat)) (cnt := m - 1) (P := fun _ sl S => ∃ z, WebP most strong way m z sl S) (g := (seqS (parS [7, 9] (consL (callR takenF (var 0) (consL (var 6) nilL)) (consL (callR pickF (var 0) (consL (frzE (szF (consL (cst (.int 1)) (consL (bin subD (cst (.int 0)) (cst (.int 1))) nilL)))) nilL)) nilL)))
  (put2S (tupE (consL (var 9) (consL (bin subD (cst (.int 0)) (var 9)) nilL))) (ixE (var 5) (var 7)) (var 6) (ixE (var 5) (var 6)) (var 7)))) (fun i sl S hi hp => ?_) (sl := sl) (S := S) ⟨z0, h⟩
  · obtain ⟨sl', S', e, z, p⟩ := this
    exact ⟨z, sl', S', e, p⟩
  obtain ⟨z1, row, M, y, v, rfl, rfl, hr, hs⟩ := hp
  have hz : i + 1 < m := by omega
  have hls : ((i + 1 : Nat) : Int).natAbs.log2 < 9000 := Nat.lt_trans (log_small (by omega) (by omega)) (by decide)
  obtain ⟨r, row1, e1, ok1, r0, r1⟩ := taken_ok hr (many := ((i + 1 : Nat) : Int)) (by omega) hls
  obtain ⟨p, row2, e2, ok2, p0, p1⟩ := pick2 ok1
  obtain ⟨q, rfl⟩ : ∃ q : Nat, r = q := ⟨r.toNat, by omega⟩
  have hq : q < m := by omega
  refine ⟨webSl most strong m way m (some (.d (.int ((i + 1 : Nat) : Int)))) (some (.d (.int q))) (some (.d (.int p))), matS row2 m (upd2 (upd2 M q (i + 1) p) (i + 1) q (0 - p)), ?_, _, row2, _, _, _, rfl, rfl, ok2, hs.put (by omega) (by omega) (by omega)⟩
  have ei : ((1 : Nat) : Int) + (i : Nat) = ((i + 1 : Nat) : Int) := by omega
  have es : (webSl most strong m way m z1 y v).set 6 (some (.d (.int (((1 : Nat) : Int) + (i : Nat))))) = webSl most strong m way m (some (.d (.int ((i + 1 : Nat) : Int)))) y v := by rw [ei]; rfl
  rw [es]
  have k1 := callR_mat (n := m) (M := M) (r := (webSl most strong m way m (some (.d (.int ((i + 1 : Nat) : Int)))) y v).tail) (la := consL (var 6) nilL) (by simp [consL, nilL, var, R.bind, webSl]) e1
  have k2 := callR_mat (n := m) (M := M) (r := (webSl most strong m way m (some (.d (.int ((i + 1 : Nat) : Int)))) y v).tail) (la := consL (frzE (szF (consL (cst (.int 1)) (consL (bin subD (cst (.int 0)) (cst (.int 1))) nilL)))) nilL) (by simp [consL, nilL, frz2, R.bind]) e2
  have e3 : parS [7, 9] (consL (callR takenF (var 0) (consL (var 6) nilL)) (consL (callR pickF (var 0) (consL (frzE (szF (consL (cst (.int 1)) (consL (bin subD (cst (.int 0)) (cst (.int 1))) nilL)))) nilL)) nilL)) (webSl most strong m way m (some (.d (.int ((i + 1 : Nat) : Int)))) y v) (matS row m M)
     = .nx (webSl most strong m way m (some (.d (.int ((i + 1 : Nat) : Int)))) (some (.d (.int q))) (some (.d (.int p)))) (matS row2 m M) := by
    unfold webSl at k1 k2 ⊢
    simp only [List.tail_cons] at k1 k2
    unfold parS
    rw [show consL (callR takenF (var 0) (consL (var 6) nilL)) (consL (callR pickF (var 0) (consL (frzE (szF (consL (cst (.int 1)) (consL (bin subD (cst (.int 0)) (cst (.int 1))) nilL)))) nilL)) nilL) _ (matS row m M) = .ok [.d (.int q), .d (.int p)] (matS row2 m M) from by
      rw [consL_ok k1 (consL_ok k2 rfl)]]
    simp [thenS, setV]
  unfold seqS
  rw [e3]
  simp only []
  unfold webSl
  exact put2_ok hq hz
theorem callR_at {Fn : FnR} {fr : DE} {la : DL} {sl : Sl} {S S1 S2 : Sto} {k : Nat} {ds row row' : List PyData} {z : PyData} (h0 : fr sl S = .ok (.loc k) S1) (hl : la sl S1 = .ok (ds.map .d) S2) (hk : S2[k]? = some (.lst (row.map .d))) (e : Fn ds row = .ok z row') :
    callR Fn fr la sl S = .ok (.d z) (S2.set k (.lst (row'.map .d))) := by
  unfold callR
  rw [h0]
  simp only [R.bind]
  rw [hl]
  simp only [frzL_d, lstAt, hk, allD_map, e]
theorem lcGo_own {slot : Nat} {el : DE} {sl : Sl} {ob : PyData → Ob} : ∀ (ds : List PyData) (n : Nat) (S : Sto), (∀ d ∈ ds, ∀ S, el (sl.set slot (some (.d d))) S = .ok (.loc S.length) (S ++ [ob d])) → n + ds.length ≤ sizeLine →
    lcGo (.nm slot) yes el sl n ds S = .ok ((List.range' S.length ds.length).map .loc) (S ++ ds.map ob)
  | [], _, S, _, _ => by simp [lcGo]
  | d :: ds, n, S, h, hn => by
    simp only [List.length_cons] at hn
    have e1 := h d List.mem_cons_self S
    have ih := lcGo_own ds (n + 1) (S ++ [ob d]) (fun d hd => h d (List.mem_cons_of_mem _ hd)) (by omega)
    unfold lcGo
    simp only [setT, yes, nb, if_true, e1, show n < sizeLine by omega, ih, R.bind]
    simp [List.range'_succ]
theorem lcF_ok {own : List Nat} {it : IT} {tg : Tg} {tt : DB} {el : DE} {sl : Sl} {S S1 : Sto} {ds : List PyData} {r : R (List Val)} (h : it sl S = .ok ds S1) (h2 : lcGo tg tt el (wipeS sl own) 0 ds S1 = r) : lcF own it tg tt el sl S = r := by
  unfold lcF
  rw [h]
  exact h2
/-- n zeros -/
theorem rep0_ok {n : Nat} {sl : Sl} {S : Sto} {i : Nat} (hi : sl[i]? = some (some (.d (.int n)))) (hn : n ≤ 1000) : ownE (repF (frzE (szF (consL (cst (.int 0)) nilL))) (var i)) sl S = .ok (.loc S.length) (S ++ [.lst (linV n fun _ => 0)]) := by
  have h1 : (1 : Nat) ≤ sizeLine := sz_ge 1 (by decide)
  have e1 : frzE (szF (consL (cst (.int 0)) nilL)) sl S = .ok (.d (.list [.int 0])) S := by
    simp [frzE, szF, frzL, frz, consL, nilL, cst, R.bind, h1]
  have e2 : var i sl S = .ok (.d (.int n)) S := by unfold var; rw [hi]
  have h3 : ((n : Nat) : Int) < 2 ^ 63 := Int.lt_trans (lt62 (by omega)) (by decide +kernel)
  have h4 : -(2 ^ 63) ≤ ((n : Nat) : Int) := Int.le_trans (show -(2 ^ 63) ≤ -(2 ^ 62 : Int) by decide +kernel) ge62
  have h5 : n ≤ sizeLine := sz_ge n (by omega)
  have e3 : repF (frzE (szF (consL (cst (.int 0)) nilL))) (var i) sl S = .ok (linV n fun _ => 0) S := by
    unfold repF
    rw [e1]
    simp only [R.bind]
    rw [e2]
    simp only [dat]
    rw [decide_eq_true h3, decide_eq_true h4, if_pos (by simpa using h5)]
    congr 1
    simp [linV, List.map_const', List.flatten_replicate_singleton]
  unfold ownE
  rw [e3]
  rfl
def tupOf : PyData → PyData
  | .list ds => .tuple ds
  | d => d
theorem tup_map (n : Nat) (f : Nat → List PyData) : ((List.range n).map fun i => PyData.list (f i)).map tupOf = (List.range n).map fun i => .tuple (f i) := by
  rw [List.map_map]
  rfl
theorem web_ok {row : List PyData} {most strong : Int} (hr : RowOk row) (hm : 1 ≤ most) (hm2 : most ≤ 1000) (h1 : 1 ≤ strong) (h2 : strong ≤ 1000) :
    ∃ (n : Nat) (M : Nat → Nat → Int) (row' : List PyData), webF [.int most, .int strong] row = .ok (webD n M) row' ∧ RowOk row' ∧ 1 ≤ n ∧ (n : Int) ≤ most ∧ Skew strong M := by
  obtain ⟨r, row1, e1, ok1, r0, r1⟩ := taken_ok hr (many := most) (by omega) (Nat.lt_trans (log_small (by omega) (by omega)) (by decide))
  obtain ⟨way, row2, e2, ok2, w0, w1⟩ := taken_ok ok1 (many := 5) (by omega) (by decide +kernel)
  obtain ⟨n, hn⟩ : ∃ n : Nat, 1 + r = n := ⟨(1 + r).toNat, by omega⟩
  have hn1 : 1 ≤ n := by omega
  have hn2 : n ≤ 1000 := by omega
  let sl0 : Sl := slots 11 [.loc 0, .d (.int most), .d (.int strong)]
  let sl1 : Sl := [some (.loc 0), some (.d (.int most)), some (.d (.int strong)), some (.d (.int n)), some (.d (.int way)), none, none, none, none, none, none]
  have p1 : parS [3, 4] (consL (bin addD (cst (.int 1)) (callR takenF (var 0) (consL (var 1) nilL))) (consL (callR takenF (var 0) (consL (cst (.int 5)) nilL)) nilL)) sl0 [.lst (row.map .d)] = .nx sl1 [.lst (row2.map .d)] := by
    have c1 : callR takenF (var 0) (consL (var 1) nilL) sl0 [.lst (row.map .d)] = .ok (.d (.int r)) [.lst (row1.map .d)] := callR_at (k := 0) (S1 := [.lst (row.map .d)]) (S2 := [.lst (row.map .d)]) (ds := [.int most]) (row := row) rfl rfl rfl e1
    have c2 : callR takenF (var 0) (consL (cst (.int 5)) nilL) sl0 [.lst (row1.map .d)] = .ok (.d (.int way)) [.lst (row2.map .d)] := callR_at (k := 0) (S1 := [.lst (row1.map .d)]) (S2 := [.lst (row1.map .d)]) (ds := [.int 5]) (row := row1) rfl rfl rfl e2
    have c3 : bin addD (cst (.int 1)) (callR takenF (var 0) (consL (var 1) nilL)) sl0 [.lst (row.map .d)] = .ok (.d (.int n)) [.lst (row1.map .d)] := by
      unfold bin
      simp only [cst, R.bind]
      rw [c1]
      simp only [two, dat, addD, okD, hn]
    unfold parS
    rw [consL_ok c3 (consL_ok c2 rfl)]
    rfl
  let sl2 : Sl := webSl most strong n way n none none none
  have p2 : asgS 5 (ownE (lcF [8] (rng1 (consL (var 3) nilL)) (.nm 8) yes (ownE (repF (frzE (szF (consL (cst (.int 0)) nilL))) (var 3))))) sl1 [.lst (row2.map .d)] = .nx sl2 (matS row2 n fun _ _ => 0) := by
    have c1 : rng1 (consL (var 3) nilL) sl1 [.lst (row2.map .d)] = .ok (rangeL 0 n) [.lst (row2.map .d)] := rng1_ok rfl (by omega)
    have c2 := lcGo_own (slot := 8) (el := ownE (repF (frzE (szF (consL (cst (.int 0)) nilL))) (var 3))) (sl := wipeS sl1 [8]) (ob := fun _ => .lst (linV n fun _ => 0)) (rangeL 0 n) 0 [.lst (row2.map .d)] (fun d hd S => rep0_ok rfl hn2) (by rw [rangeL_length, Nat.zero_add]; exact sz_ge n hn2)
    have c3 := lcF_ok (own := [8]) c1 c2
    have c4 := z_asg (i := 5) (z_own c3)
    rw [c4]
    have q1 : [Ob.lst (row2.map .d)] ++ (rangeL 0 n).map (fun _ => Ob.lst (linV n fun _ => 0)) ++ [Ob.lst ((List.range' [Ob.lst (row2.map .d)].length (rangeL 0 n).length).map .loc)] = matS row2 n fun _ _ => 0 := by
      unfold matS
      rw [rangeL_length]
      simp [rangeL, List.range'_eq_map_range, Function.comp_def, Nat.add_comm]
    have q2 : ([Ob.lst (row2.map .d)] ++ (rangeL 0 n).map (fun _ => Ob.lst (linV n fun _ => 0))).length = n + 1 := by
      simp [rangeL_length]
    rw [q1, q2]
    rfl
  have hP0 : WebP most strong way n none sl2 (matS row2 n fun _ _ => 0) := ⟨row2, _, none, none, rfl, rfl, ok2, Skew.zero (by omega)⟩
  obtain ⟨sl3, S3, p3, z3, hP3⟩ : ∃ sl3 S3, forS (rng2 (consL (cst (.int 1)) (consL (var 3) nilL))) (.nm 6) webLoop1 sl2 (matS row2 n fun _ _ => 0) = .nx sl3 S3 ∧ ∃ z, WebP most strong way n z sl3 S3 := by
    unfold forS
    rw [rng2_ok (i := 1) (k := n) rfl (by omega) (by omega)]
    simp only [thenS]
    refine fgo_range (P := fun _ sl S => ∃ z, WebP most strong way n z sl S) (fun i sl S hi hp => ?_) ⟨none, hP0⟩
    obtain ⟨z, row, M, y, v, rfl, rfl, hr, hs⟩ := hp
    have es : (webSl most strong n way n z y v).set 6 (some (.d (.int (((1 : Nat) : Int) + (i : Nat))))) = webSl most strong n way n (some (.d (.int ((i + 1 : Nat) : Int)))) y v := by
      rw [show ((1 : Nat) : Int) + (i : Nat) = ((i + 1 : Nat) : Int) by omega]; rfl
    rw [es]
    obtain ⟨sl', S', e, p⟩ := loop1_ok (most := most) (strong := strong) (way := way) (m := n) (z := i + 1) (by omega) hn2 h1 h2 ⟨row, M, y, v, rfl, rfl, hr, hs⟩
    exact ⟨sl', S', e, _, p⟩
  obtain ⟨sl4, S4, p4, z4, hP4⟩ : ∃ sl4 S4, ifS (asB (bin eqD (var 4) (cst (.int 4)))) webLoop2 nilS sl3 S3 = .nx sl4 S4 ∧ ∃ z, WebP most strong way n z sl4 S4 := by
    have c : asB (bin eqD (var 4) (cst (.int 4))) sl3 S3 = .ok (decide (way = 4)) S3 := by
      obtain ⟨row, M, y, v, rfl, rfl, hr, hs⟩ := hP3
      simp [asB, bin, var, cst, two, dat, eqD_int, okD, R.bind, webSl]
    unfold ifS
    rw [c]
    simp only [thenS]
    by_cases w : way = 4
    · obtain ⟨z, sl4, S4, e, p⟩ := loop2_ok (most := most) (way := way) hn2 h1 hP3
      exact ⟨sl4, S4, by simpa [w] using e, z, p⟩
    · exact ⟨sl3, S3, by simp [w, nilS], z3, hP3⟩
  obtain ⟨row5, M, y5, v5, rfl, rfl, ok5, sk⟩ := hP4
  refine ⟨n, M, row5, ?_, ok5, hn1, by omega, sk⟩
  obtain ⟨S5, f1, f2⟩ := frz_mat (row := row5) (n := n) (M := M)
  have p5 : rtS (blt tupD (consL (frzE (lcF [10] (seqI (var 5)) (.nm 10) yes (blt tupD (consL (var 10) nilL)))) nilL)) (webSl most strong n way n z4 y5 v5) (matS row5 n M) = .rt (webD n M) S5 := by
    have c1 : seqI (var 5) (webSl most strong n way n z4 y5 v5) (matS row5 n M) = .ok ((List.range n).map fun i => .list (linD n (M i))) S5 := by
      simp [seqI, var, webSl, R.bind, f1]
    have c2 := lcGo_yes (slot := 10) (el := blt tupD (consL (var 10) nilL)) (sl := wipeS (webSl most strong n way n z4 y5 v5) [10]) (S := S5) (f := tupOf) ((List.range n).map fun i => .list (linD n (M i))) 0 (fun d hd => by
      obtain ⟨i, _, rfl⟩ := List.mem_map.mp hd
      rfl) (by rw [List.length_map, List.length_range, Nat.zero_add]; exact sz_ge n hn2)
    have c3 := lcF_ok (own := [10]) c1 c2
    rw [tup_map] at c3
    exact z_rt (z_blt (z_consD (z_frzE c3) z_nilD) rfl)
  exact z_runR rfl (z_seq p1 (z_seq p2 (z_seq p3 (z_seq p4 p5)))) (z_outR f2)
end DV
set_option Elab.async false
set_option linter.all false
set_option maxRecDepth 100000
set_option maxHeartbeats 4000000
namespace DV
open PySem PySem.Spec PyProof.Rows
section
variable {x last w r : Str} {tab : Str → Option Str} {fb : DE} {sl : Sl} {S S1 : Sto} {e : Exn} {v : Val} {LT : Nat → LamSpec} {fbs : List DE} {cl : List (Str × Addr)} {kt : Nat}
theorem z_errX (h0 : S[kt]? = some (.gh (.tab x))) (h : fb sl S = .er e S1) (ht : tab e.cls = some r) : errE x kt tab last fb sl S = .ok (.d (.str r)) S1 := by
  unfold errE
  rw [h0]
  show (if x = x then errR tab last (fb sl S) else .bad) = _
  rw [if_pos rfl, h]
  show (match tab e.cls with | some r => R.ok (Val.d (.str r)) S1 | none => .bad) = _
  rw [ht]
theorem z_errN (h0 : S[kt]? = some (.gh (.tab x))) (h : fb sl S = .ok v S1) : errE x kt tab last fb sl S = .ok (.d (.str last)) S1 := by
  unfold errE
  rw [h0]
  show (if x = x then errR tab last (fb sl S) else .bad) = _
  rw [if_pos rfl, h]
  rfl
theorem z_lamE {j : Nat} {L : LamSpec} (h0 : S[kt]? = some (.gh (.tab x))) : lamE x kt j L cl sl S = .ok (.loc S.length) (S ++ [.gh (.lam j L cl)]) := by
  unfold lamE
  rw [h0]
  exact if_pos rfl
theorem lamAt_ok {p j : Nat} (h : S[p]? = some (.gh (.lam j (LT j) cl))) (hf : fbs[j]? = some fb) : lamAt LT fbs cl S (.loc p) = some fb := by
  unfold lamAt
  dsimp only
  rw [h]
  dsimp only
  rw [if_pos ⟨rfl, rfl⟩, hf]
theorem lamGo_all {k : Nat} {ys : List Val} (hk : S[k]? = some (.lst ys)) (ha : ∀ v ∈ ys, ∃ fb e, lamAt LT fbs cl S v = some fb ∧ fb sl S = .er e S ∧ tab e.cls = some w) : ∀ n i, ys.length ≤ i + n → lamGo tab last w LT fbs cl sl k n i S = .ok () S := by
  intro n
  induction n with
  | zero =>
    intro i hi
    unfold lamGo
    rw [hk]
    dsimp only
    rw [List.getElem?_eq_none (by omega)]
  | succ n ih =>
    intro i hi
    unfold lamGo
    rw [hk]
    dsimp only
    cases ev : ys[i]? with
    | none => rfl
    | some v =>
      obtain ⟨fb, e, h1, h2, h3⟩ := ha v (List.mem_of_getElem? ev)
      dsimp only
      rw [h1]
      dsimp only
      rw [h2]
      show (match (match tab e.cls with | some r => R.ok (Val.d (.str r)) S | none => .bad) with | .ok (.d (.str r)) S1 => if r = w then lamGo tab last w LT fbs cl sl k n (i + 1) S1 else .bad | _ => .bad) = _
      rw [h3]
      dsimp only
      rw [if_pos rfl]
      exact ih (i + 1) (by omega)
theorem z_lamF {fit : DE} {k : Nat} {ys : List Val} (hf : fit sl S = .ok (.loc k) S1) (hk : S1[k]? = some (.lst ys)) (ha : ∀ v ∈ ys, ∃ fb e, lamAt LT fbs cl S1 v = some fb ∧ fb sl S1 = .er e S1 ∧ tab e.cls = some w) : lamF tab last w LT fbs cl fit sl S = .ok [] S1 := by
  unfold lamF
  rw [hf]
  show (match lstAt S1 (.loc k) with | some (k, ys) => (lamGo tab last w LT fbs cl sl k ys.length 0 S1).bind fun _ S2 => R.ok [] S2 | none => .bad) = _
  have : lstAt S1 (.loc k) = some (k, ys) := by
    unfold lstAt
    dsimp only
    rw [hk]
  rw [this]
  dsimp only
  rw [lamGo_all hk ha _ _ (by omega)]
  rfl
theorem z_cat {fa fb' : DE} {S2 : Sto} {k1 k2 : Nat} {xs ys : List Val} (h1 : fa sl S = .ok (.loc k1) S1) (h2 : fb' sl S1 = .ok (.loc k2) S2) (e1 : S2[k1]? = some (.lst xs)) (e2 : S2[k2]? = some (.lst ys)) (hl : xs.length + ys.length ≤ sizeLine) : catF fa fb' sl S = .ok (xs ++ ys) S2 := by
  unfold catF
  rw [h1]
  show (fb' sl S1).bind _ = _
  rw [h2]
  show (match lstAt S2 (.loc k1), lstAt S2 (.loc k2) with | some (_, xs), some (_, ys) => if xs.length + ys.length ≤ sizeLine then R.ok (xs ++ ys) S2 else .bad | _, _ => .bad) = _
  have a1 : lstAt S2 (.loc k1) = some (k1, xs) := by unfold lstAt; dsimp only; rw [e1]
  have a2 : lstAt S2 (.loc k2) = some (k2, ys) := by unfold lstAt; dsimp only; rw [e2]
  rw [a1, a2]
  exact if_pos hl
end
end DV
set_option Elab.async false
set_option linter.all false
set_option maxRecDepth 100000
set_option maxHeartbeats 4000000
namespace K29
open PySem PySem.Spec PyProof.Rows L2 L2H DV LamX LamY
def top (i : Nat) : Stmt := PySem.Challenge.pw_dartwebs_k29_beats_refused.main.body.getD i (.Pass ⟨0, 0, 0, 0⟩)
structure Tx (K : PySem.W.Frag) (mg : Str → Option Value) : Prop where
  n_int : mg "int" = none
  n_len : mg "len" = none
  n_isinstance : mg "isinstance" = none
  n_bool : mg "bool" = none
  n_tuple : mg "tuple" = none
  i_MOST_ARROWS : IsI mg "MOST_ARROWS" 1000
  n_all : mg "all" = none
  i_MOST_NODES : IsI mg "MOST_NODES" 6
  n_range : mg "range" = none
  e_BadWeb : ExcC K mg "BadWeb"
  n_abs : mg "abs" = none
  n_sorted : mg "sorted" = none
  n_max : mg "max" = none
  e_NoTree : ExcC K mg "NoTree"
  n_zip : mg "zip" = none
  i_MOST_PAIRS : IsI mg "MOST_PAIRS" 500
  i_MOST_EXPONENT : IsI mg "MOST_EXPONENT" 1000
  n_any : mg "any" = none
  e_TooGreat : ExcC K mg "TooGreat"
  n_min : mg "min" = none
  n_list : mg "list" = none
  n_dict : mg "dict" = none
  e_NotEven : ExcC K mg "NotEven"
  n_enumerate : mg "enumerate" = none
  i_MOST_BEATS : IsI mg "MOST_BEATS" 40
  e_BadTimes : ExcC K mg "BadTimes"
  n_str : mg "str" = none
  i_BEAT_E : IsI mg "BEAT_E" 14
  i_MOST_TOLD : IsI mg "MOST_TOLD" 1000000
  e_BadShares : ExcC K mg "BadShares"
  i_MOST_VALUE : IsI mg "MOST_VALUE" 1000000000000000000000000000000000000000000000000000000000000000000000000000000000000000000000000000000000000000000000000000000000000000000000000000000000000000000000000000000000000000000000000000000000000000000000000000000000000000000000000000000000000000000000000000000000000000000000000000000000000
  t_WHOLE : IsT K mg "WHOLE" [1, 1]
  e_NotSteady : ExcC K mg "NotSteady"
  i_MOST_STEPS : IsI mg "MOST_STEPS" 60
def fuel : Nat := 100000
section
variable {P : Program} {w : World} {K : PySem.W.Frag} {mg : Str → Option Value} {base : Heap}
abbrev s__law_taken : Stmt := top 79
abbrev N__law_taken : List Str := ["_law_row", "_law_many", "_law_cell", "_law_found"]
theorem sc__law_taken : FnScope N__law_taken ["_law_row", "_law_many"] (defScope s__law_taken) := ⟨rfl, rfl, rfl, by decide +kernel, rfl, by decide +kernel, by decide +kernel⟩
def D__law_taken : DS :=
  (seqS (ifS (asB (bin gtI (ixE (var 0) (cst (.int 3))) (cst (.int 0)))) (seqS (asgS 3 (bin modD (blt intD (consL (ixE (var 0) (cst (.int 3))) nilL)) (var 1)))
  (seqS (putS (bin divD (ixE (var 0) (cst (.int 3))) (var 1)) (var 0) (cst (.int 3)))
  (rtS (var 3)))) nilS)
  (seqS (putS (bin addD (ixE (var 0) (cst (.int 1))) (cst (.int 1))) (var 0) (cst (.int 1)))
  (seqS (ifS (asB (bin gtI (ixE (var 0) (cst (.int 1))) (blt lenD (consL (ixE (var 0) (cst (.int 0))) nilL)))) (seqS (putS (bin modD (blt intD (consL (bin addD (bin mulD (ixE (var 0) (cst (.int 2))) (cst (.int 48271))) (cst (.int 11))) nilL)) (cst (.int 2147483647))) (var 0) (cst (.int 2)))
  (rtS (bin modD (blt intD (consL (bin divD (ixE (var 0) (cst (.int 2))) (cst (.int 7))) nilL)) (var 1)))) nilS)
  (seqS (asgS 2 (ixE (ixE (var 0) (cst (.int 0))) (bin subD (ixE (var 0) (cst (.int 1))) (cst (.int 1)))))
  (seqS (putS (bin modD (blt intD (consL (bin addD (bin addD (bin mulD (ixE (var 0) (cst (.int 2))) (cst (.int 48271))) (var 2)) (cst (.int 11))) nilL)) (cst (.int 2147483647))) (var 0) (cst (.int 2)))
  (seqS (ifS (asB (bin geI (var 2) (bin powD (cst (.int 10)) (cst (.int 18))))) (putS (bin divD (var 2) (var 1)) (var 0) (cst (.int 3))) nilS)
  (rtS (bin modD (blt intD (consL (var 2) nilL)) (var 1)))))))))
def F__law_taken : FnR := runR 4 2 D__law_taken
theorem b__law_taken {cdv : Value} {A : Around} {outer : List Env} {s : Shared} {H : Hp} {E : XK} {f : Addr} (T : Tx K mg)  (hr : Room 0 (A.deeper (envOfC "_law_taken" (defScope s__law_taken) s.heap.objs.size f cdv))) :
    QB (cxOf (L2N.CX P w) P w K mg base N__law_taken "_law_taken" (defScope s__law_taken) f cdv A outer s H E) (WE0 E) (defBody s__law_taken) D__law_taken :=
  (b_cons (s_if (t_c (cGt) (q_ix (v_ 0) q_int (fun _ _ => rfl)) q_int) (b_cons (s_set (ps_set (i := 3) sc__law_taken.nd rfl (by first | exact .inl rfl | exact .inr rfl) (q_mod (q_bt bInt T.n_int (by decide +kernel) (a_cons (q_ix (v_ 0) q_int (fun _ _ => rfl)) a_nil)) (v_ 1))))
  (b_cons (s_put (ps_asg (q_div (q_ix (v_ 0) q_int (fun _ _ => rfl)) (v_ 1)) (pg_sub (v_ 0) q_int set_list)))
  (b_one (s_ret (v_ 3))))) b_nil)
  (b_cons (s_put (ps_asg (q_add (q_ix (v_ 0) q_int (fun _ _ => rfl)) q_int) (pg_sub (v_ 0) q_int set_list)))
  (b_cons (s_if (t_c (cGt) (q_ix (v_ 0) q_int (fun _ _ => rfl)) (q_b bLen T.n_len (by decide +kernel) (a_cons (q_ix (v_ 0) q_int (fun _ _ => rfl)) a_nil))) (b_cons (s_put (ps_asg (q_mod (q_bt bInt T.n_int (by decide +kernel) (a_cons (q_add (q_mul (q_ix (v_ 0) q_int (fun _ _ => rfl)) q_int) q_int) a_nil)) q_int) (pg_sub (v_ 0) q_int set_list)))
  (b_one (s_ret (q_mod (q_bt bInt T.n_int (by decide +kernel) (a_cons (q_div (q_ix (v_ 0) q_int (fun _ _ => rfl)) q_int) a_nil)) (v_ 1))))) b_nil)
  (b_cons (s_set (ps_set (i := 2) sc__law_taken.nd rfl (by first | exact .inl rfl | exact .inr rfl) (q_ix (q_ix (v_ 0) q_int (fun _ _ => rfl)) (q_sub (q_ix (v_ 0) q_int (fun _ _ => rfl)) q_int) (fun _ _ => rfl))))
  (b_cons (s_put (ps_asg (q_mod (q_bt bInt T.n_int (by decide +kernel) (a_cons (q_add (q_add (q_mul (q_ix (v_ 0) q_int (fun _ _ => rfl)) q_int) (v_ 2)) q_int) a_nil)) q_int) (pg_sub (v_ 0) q_int set_list)))
  (b_cons (s_if (t_c (cGe) (v_ 2) (q_pow q_int q_int)) (b_one (s_put (ps_asg (q_div (v_ 2) (v_ 1)) (pg_sub (v_ 0) q_int set_list)))) b_nil)
  (b_one (s_ret (q_mod (q_bt bInt T.n_int (by decide +kernel) (a_cons (v_ 2) a_nil)) (v_ 1))))))))))
theorem ok__law_taken {f : Addr} {fd : FuncData} (T : Tx K mg)  (F : FnD K "_law_taken" s__law_taken f fd) (hm : mg "_law_taken" = some (.ref f)) : CalR P w K mg base "_law_taken" 1 ["_law_row", "_law_many"] F__law_taken :=
  ⟨fn_okR F sc__law_taken fun cdv A outer s H E hr => b__law_taken T  hr, hm, F.kp, F.bindsN (fun _ _ _ _ _ _ us hl => match us, hl with | [_, _], _ => rfl), runR_len⟩
abbrev s__law_pick : Stmt := top 80
abbrev N__law_pick : List Str := ["_law_row", "_law_things"]
theorem sc__law_pick : FnScope N__law_pick ["_law_row", "_law_things"] (defScope s__law_pick) := ⟨rfl, rfl, rfl, by decide +kernel, rfl, by decide +kernel, by decide +kernel⟩
def D__law_pick : DS :=
  (rtS (ixE (var 1) (callR F__law_taken (var 0) (consL (blt lenD (consL (var 1) nilL)) nilL))))
def F__law_pick : FnR := runR 2 2 D__law_pick
theorem b__law_pick {cdv : Value} {A : Around} {outer : List Env} {s : Shared} {H : Hp} {E : XK} {f : Addr} (T : Tx K mg) (C__law_taken : CalR P w K mg base "_law_taken" 1 ["_law_row", "_law_many"] F__law_taken) (hr : Room 1 (A.deeper (envOfC "_law_pick" (defScope s__law_pick) s.heap.objs.size f cdv))) :
    QB (cxOf (L2N.CX P w) P w K mg base N__law_pick "_law_pick" (defScope s__law_pick) f cdv A outer s H E) (WE0 E) (defBody s__law_pick) D__law_pick :=
  (b_one (s_ret (q_ix (v_ 1) (q_r C__law_taken hr (by omega) (L2N.takes_of rfl rfl rfl rfl) (v_ 0) (a_cons (q_b bLen T.n_len (by decide +kernel) (a_cons (v_ 1) a_nil)) a_nil)) (fun _ _ => rfl))))
theorem ok__law_pick {f : Addr} {fd : FuncData} (T : Tx K mg) (C__law_taken : CalR P w K mg base "_law_taken" 1 ["_law_row", "_law_many"] F__law_taken) (F : FnD K "_law_pick" s__law_pick f fd) (hm : mg "_law_pick" = some (.ref f)) : CalR P w K mg base "_law_pick" 2 ["_law_row", "_law_things"] F__law_pick :=
  ⟨fn_okR F sc__law_pick fun cdv A outer s H E hr => b__law_pick T C__law_taken hr, hm, F.kp, F.bindsN (fun _ _ _ _ _ _ us hl => match us, hl with | [_, _], _ => rfl), runR_len⟩
abbrev s__law_error : Stmt := top 81
abbrev N__law_error : List Str := ["_law_call"]
theorem sc__law_error : FnScope N__law_error ["_law_call"] (defScope s__law_error) := ⟨rfl, rfl, rfl, by decide +kernel, rfl, by decide +kernel, by decide +kernel⟩
def hs__law_error : List (Str × Str) := [("BadWeb", "BadWeb"), ("NoTree", "NoTree"), ("BadTimes", "BadTimes"), ("NotSteady", "NotSteady"), ("BadShares", "BadShares"), ("WebError", "other")]
abbrev l__law_error (K : PySem.W.Frag) : List (Value × Str) := hs__law_error.map fun p => (.ref (He.ga K p.1), p.2)
def tab__law_error (x : Str) : Option Str := if x = "BadWeb" then some "BadWeb" else if x = "NoTree" then some "NoTree" else if x = "TooLong" then some "other" else if x = "TooGreat" then some "other" else if x = "NotEven" then some "other" else if x = "BadTimes" then some "BadTimes" else if x = "BadShares" then some "BadShares" else if x = "NotSteady" then some "NotSteady" else none
def fs__law_error : List (Str × Str × Bool) := [(("BadWeb" : Str), ("BadWeb" : Str), true), (("NoTree" : Str), ("BadWeb" : Str), false), (("NoTree" : Str), ("NoTree" : Str), true), (("TooLong" : Str), ("BadWeb" : Str), false), (("TooLong" : Str), ("NoTree" : Str), false), (("TooLong" : Str), ("BadTimes" : Str), false), (("TooLong" : Str), ("NotSteady" : Str), false), (("TooLong" : Str), ("BadShares" : Str), false), (("TooLong" : Str), ("WebError" : Str), true), (("TooGreat" : Str), ("BadWeb" : Str), false), (("TooGreat" : Str), ("NoTree" : Str), false), (("TooGreat" : Str), ("BadTimes" : Str), false), (("TooGreat" : Str), ("NotSteady" : Str), false), (("TooGreat" : Str), ("BadShares" : Str), false), (("TooGreat" : Str), ("WebError" : Str), true), (("NotEven" : Str), ("BadWeb" : Str), false), (("NotEven" : Str), ("NoTree" : Str), false), (("NotEven" : Str), ("BadTimes" : Str), false), (("NotEven" : Str), ("NotSteady" : Str), false), (("NotEven" : Str), ("BadShares" : Str), false), (("NotEven" : Str), ("WebError" : Str), true), (("BadTimes" : Str), ("BadWeb" : Str), false), (("BadTimes" : Str), ("NoTree" : Str), false), (("BadTimes" : Str), ("BadTimes" : Str), true), (("BadShares" : Str), ("BadWeb" : Str), false), (("BadShares" : Str), ("NoTree" : Str), false), (("BadShares" : Str), ("BadTimes" : Str), false), (("BadShares" : Str), ("NotSteady" : Str), false), (("BadShares" : Str), ("BadShares" : Str), true), (("NotSteady" : Str), ("BadWeb" : Str), false), (("NotSteady" : Str), ("NoTree" : Str), false), (("NotSteady" : Str), ("BadTimes" : Str), false), (("NotSteady" : Str), ("NotSteady" : Str), true)]
theorem tb__law_error (x r : Str) (h : tab__law_error x = some r) : ∃ pre suf y, hs__law_error = pre ++ (y, r) :: suf ∧ (∀ p ∈ pre, (x, p.1, false) ∈ fs__law_error) ∧ (x, y, true) ∈ fs__law_error := by
  unfold tab__law_error at h
  by_cases e : x = "BadWeb"
  · subst e
    simp only [if_true, reduceIte] at h
    first | (rw [if_pos rfl] at h; cases h; exact ⟨hs__law_error.take 0, hs__law_error.drop 1, "BadWeb", rfl, by decide +kernel, by decide +kernel⟩) | (cases h; exact ⟨hs__law_error.take 0, hs__law_error.drop 1, "BadWeb", rfl, by decide +kernel, by decide +kernel⟩)
  rw [if_neg e] at h
  clear e
  by_cases e : x = "NoTree"
  · subst e
    simp only [if_true, reduceIte] at h
    first | (rw [if_pos rfl] at h; cases h; exact ⟨hs__law_error.take 1, hs__law_error.drop 2, "NoTree", rfl, by decide +kernel, by decide +kernel⟩) | (cases h; exact ⟨hs__law_error.take 1, hs__law_error.drop 2, "NoTree", rfl, by decide +kernel, by decide +kernel⟩)
  rw [if_neg e] at h
  clear e
  by_cases e : x = "TooLong"
  · subst e
    simp only [if_true, reduceIte] at h
    first | (rw [if_pos rfl] at h; cases h; exact ⟨hs__law_error.take 5, hs__law_error.drop 6, "WebError", rfl, by decide +kernel, by decide +kernel⟩) | (cases h; exact ⟨hs__law_error.take 5, hs__law_error.drop 6, "WebError", rfl, by decide +kernel, by decide +kernel⟩)
  rw [if_neg e] at h
  clear e
  by_cases e : x = "TooGreat"
  · subst e
    simp only [if_true, reduceIte] at h
    first | (rw [if_pos rfl] at h; cases h; exact ⟨hs__law_error.take 5, hs__law_error.drop 6, "WebError", rfl, by decide +kernel, by decide +kernel⟩) | (cases h; exact ⟨hs__law_error.take 5, hs__law_error.drop 6, "WebError", rfl, by decide +kernel, by decide +kernel⟩)
  rw [if_neg e] at h
  clear e
  by_cases e : x = "NotEven"
  · subst e
    simp only [if_true, reduceIte] at h
    first | (rw [if_pos rfl] at h; cases h; exact ⟨hs__law_error.take 5, hs__law_error.drop 6, "WebError", rfl, by decide +kernel, by decide +kernel⟩) | (cases h; exact ⟨hs__law_error.take 5, hs__law_error.drop 6, "WebError", rfl, by decide +kernel, by decide +kernel⟩)
  rw [if_neg e] at h
  clear e
  by_cases e : x = "BadTimes"
  · subst e
    simp only [if_true, reduceIte] at h
    first | (rw [if_pos rfl] at h; cases h; exact ⟨hs__law_error.take 2, hs__law_error.drop 3, "BadTimes", rfl, by decide +kernel, by decide +kernel⟩) | (cases h; exact ⟨hs__law_error.take 2, hs__law_error.drop 3, "BadTimes", rfl, by decide +kernel, by decide +kernel⟩)
  rw [if_neg e] at h
  clear e
  by_cases e : x = "BadShares"
  · subst e
    simp only [if_true, reduceIte] at h
    first | (rw [if_pos rfl] at h; cases h; exact ⟨hs__law_error.take 4, hs__law_error.drop 5, "BadShares", rfl, by decide +kernel, by decide +kernel⟩) | (cases h; exact ⟨hs__law_error.take 4, hs__law_error.drop 5, "BadShares", rfl, by decide +kernel, by decide +kernel⟩)
  rw [if_neg e] at h
  clear e
  by_cases e : x = "NotSteady"
  · subst e
    simp only [if_true, reduceIte] at h
    first | (rw [if_pos rfl] at h; cases h; exact ⟨hs__law_error.take 3, hs__law_error.drop 4, "NotSteady", rfl, by decide +kernel, by decide +kernel⟩) | (cases h; exact ⟨hs__law_error.take 3, hs__law_error.drop 4, "NotSteady", rfl, by decide +kernel, by decide +kernel⟩)
  rw [if_neg e] at h
  clear e
  cases h
theorem G_of__law_error {f : Addr} {fd : FuncData} (F : FnD K "_law_error" s__law_error f fd) (hm : mg "_law_error" = some (.ref f)) (hg : ∀ x ∈ hs__law_error.map (·.1), mg x = some (.ref (He.ga K x))) : ErrG P w K mg base "_law_error" (l__law_error K) "" :=
  errG_of F hm sc__law_error rfl (by first | exact .inl rfl | exact .inr (.inl rfl)) (fun _ _ _ _ _ _ us hl => match us, hl with | [_], _ => rfl) rfl (fun X hs hm => (.cons ⟨by show X.env.scope.names.lookup _ = _; rw [hs]; rfl, by decide, .inl (by rw [hm]; exact hg _ (by decide +kernel))⟩ (.cons ⟨by show X.env.scope.names.lookup _ = _; rw [hs]; rfl, by decide, .inl (by rw [hm]; exact hg _ (by decide +kernel))⟩ (.cons ⟨by show X.env.scope.names.lookup _ = _; rw [hs]; rfl, by decide, .inl (by rw [hm]; exact hg _ (by decide +kernel))⟩ (.cons ⟨by show X.env.scope.names.lookup _ = _; rw [hs]; rfl, by decide, .inl (by rw [hm]; exact hg _ (by decide +kernel))⟩ (.cons ⟨by show X.env.scope.names.lookup _ = _; rw [hs]; rfl, by decide, .inl (by rw [hm]; exact hg _ (by decide +kernel))⟩ (.cons ⟨by show X.env.scope.names.lookup _ = _; rw [hs]; rfl, by decide, .inl (by rw [hm]; exact hg _ (by decide +kernel))⟩ HdsR.nil))))))) (fun _ => rfl) (fun _ _ _ _ _ => rfl)
abbrev s_is_integer : Stmt := top 13
abbrev N_is_integer : List Str := ["value"]
theorem sc_is_integer : FnScope N_is_integer ["value"] (defScope s_is_integer) := ⟨rfl, rfl, rfl, by decide +kernel, rfl, by decide +kernel, by decide +kernel⟩
def D_is_integer : DS :=
  (rtS (andV (isiE "int" (var 0)) (notV (isiE "bool" (var 0)))))
def F_is_integer : FnP := runP 1 1 D_is_integer
theorem b_is_integer {cdv : Value} {A : Around} {outer : List Env} {s : Shared} {H : Hp} {E : XK} {f : Addr} (T : Tx K mg)  (hr : Room 0 (A.deeper (envOfC "is_integer" (defScope s_is_integer) s.heap.objs.size f cdv))) :
    QB (cxOf (L2N.CX P w) P w K mg base N_is_integer "is_integer" (defScope s_is_integer) f cdv A outer s H E) (WE0 E) (defBody s_is_integer) D_is_integer :=
  (b_one (s_ret (q_and (q_is T.n_isinstance T.n_int (by decide +kernel) (v_ 0)) (q_one (q_not (q_is T.n_isinstance T.n_bool (by decide +kernel) (v_ 0)))))))
theorem ok_is_integer {f : Addr} {fd : FuncData} (T : Tx K mg)  (F : FnD K "is_integer" s_is_integer f fd) (hm : mg "is_integer" = some (.ref f)) : CalP P w K mg base "is_integer" 1 ["value"] F_is_integer :=
  ⟨fn_okP F sc_is_integer fun cdv A outer s H E hr => b_is_integer T  hr, hm, F.kp, F.bindsN (fun _ _ _ _ _ _ us hl => match us, hl with | [_], _ => rfl), runP_len⟩
abbrev s_is_from : Stmt := top 14
abbrev N_is_from : List Str := ["value", "low", "high"]
theorem sc_is_from : FnScope N_is_from ["value", "low", "high"] (defScope s_is_from) := ⟨rfl, rfl, rfl, by decide +kernel, rfl, by decide +kernel, by decide +kernel⟩
def D_is_from : DS :=
  (rtS (andV (callP F_is_integer (consL (var 0) nilL)) (chain leI leI (var 1) (var 0) (var 2))))
def F_is_from : FnP := runP 3 3 D_is_from
theorem b_is_from {cdv : Value} {A : Around} {outer : List Env} {s : Shared} {H : Hp} {E : XK} {f : Addr} (T : Tx K mg) (C_is_integer : CalP P w K mg base "is_integer" 1 ["value"] F_is_integer) (hr : Room 1 (A.deeper (envOfC "is_from" (defScope s_is_from) s.heap.objs.size f cdv))) :
    QB (cxOf (L2N.CX P w) P w K mg base N_is_from "is_from" (defScope s_is_from) f cdv A outer s H E) (WE0 E) (defBody s_is_from) D_is_from :=
  (b_one (s_ret (q_and (q_p C_is_integer hr (by omega) (L2N.takes_of rfl rfl rfl rfl) (a_cons (v_ 0) a_nil)) (q_one (q_cc (cLe) (cLe) (v_ 1) (v_ 0) (v_ 2))))))
theorem ok_is_from {f : Addr} {fd : FuncData} (T : Tx K mg) (C_is_integer : CalP P w K mg base "is_integer" 1 ["value"] F_is_integer) (F : FnD K "is_from" s_is_from f fd) (hm : mg "is_from" = some (.ref f)) : CalP P w K mg base "is_from" 2 ["value", "low", "high"] F_is_from :=
  ⟨fn_okP F sc_is_from fun cdv A outer s H E hr => b_is_from T C_is_integer hr, hm, F.kp, F.bindsN (fun _ _ _ _ _ _ us hl => match us, hl with | [_, _, _], _ => rfl), runP_len⟩
abbrev s_is_line : Stmt := top 15
abbrev N_is_line : List Str := ["n", "value", "many"]
theorem sc_is_line : FnScope N_is_line ["n", "value"] (defScope s_is_line) := ⟨rfl, rfl, rfl, by decide +kernel, rfl, by decide +kernel, by decide +kernel⟩
def D_is_line : DS :=
  (seqS (ifS (orB (notB (asB (isiE "tuple" (var 1)))) (asB (bin neD (blt lenD (consL (var 1) nilL)) (var 0)))) (rtS (cst (.bool false))) nilS)
  (rtS (blt allBD (consL (frzE (lcF [2] (seqI (var 1)) (.nm 2) yes (callP F_is_from (consL (var 2) (consL (un negD (cst (.int 1000))) (consL (cst (.int 1000)) nilL)))))) nilL))))
def F_is_line : FnP := runP 3 2 D_is_line
theorem b_is_line {cdv : Value} {A : Around} {outer : List Env} {s : Shared} {H : Hp} {E : XK} {f : Addr} (T : Tx K mg) (C_is_from : CalP P w K mg base "is_from" 2 ["value", "low", "high"] F_is_from) (hr : Room 2 (A.deeper (envOfC "is_line" (defScope s_is_line) s.heap.objs.size f cdv))) :
    QB (cxOf (L2N.CX P w) P w K mg base N_is_line "is_line" (defScope s_is_line) f cdv A outer s H E) (WE0 E) (defBody s_is_line) D_is_line :=
  (b_cons (s_if (t_bool (w_or (t_not (t_val (q_is T.n_isinstance T.n_tuple (by decide +kernel) (v_ 1)))) (w_or1 (t_c (cNe hr) (q_b bLen T.n_len (by decide +kernel) (a_cons (v_ 1) a_nil)) (v_ 0))))) (b_one (s_ret q_bl)) b_nil)
  (b_one (s_ret (q_b (bAll rfl) T.n_all (by decide +kernel) (a_cons (q_frz (f_lc (own := [("many", 2)]) rfl sc_is_line.nd (i_seq (v_ 1)) (blkOk_by (N := N_is_line) (sc := defScope s_is_line) (own := [("many", 2)]) (by decide +kernel)) (by decide) (fun _ _ _ _ _ => (pg_name (i := 2) sc_is_line.nd rfl (by first | exact .inl rfl | exact .inr rfl))) (fun _ _ _ _ _ => ts_nil) (fun _ _ _ _ _ => (q_p C_is_from hr (by omega) takesN (a_cons (v_ 2) (a_cons (q_neg (c_int T.i_MOST_ARROWS)) (a_cons (c_int T.i_MOST_ARROWS) a_nil))))))) a_nil)))))
theorem ok_is_line {f : Addr} {fd : FuncData} (T : Tx K mg) (C_is_from : CalP P w K mg base "is_from" 2 ["value", "low", "high"] F_is_from) (F : FnD K "is_line" s_is_line f fd) (hm : mg "is_line" = some (.ref f)) : CalP P w K mg base "is_line" 3 ["n", "value"] F_is_line :=
  ⟨fn_okP F sc_is_line fun cdv A outer s H E hr => b_is_line T C_is_from hr, hm, F.kp, F.bindsN (fun _ _ _ _ _ _ us hl => match us, hl with | [_, _], _ => rfl), runP_len⟩
abbrev s_is_web : Stmt := top 16
abbrev N_is_web : List Str := ["value", "n", "y", "z", "line"]
theorem sc_is_web : FnScope N_is_web ["value"] (defScope s_is_web) := ⟨rfl, rfl, rfl, by decide +kernel, rfl, by decide +kernel, by decide +kernel⟩
def D_is_web : DS :=
  (seqS (ifS (orB (notB (asB (isiE "tuple" (var 0)))) (notB (asB (chain leI leI (cst (.int 1)) (blt lenD (consL (var 0) nilL)) (cst (.int 6)))))) (rtS (cst (.bool false))) nilS)
  (seqS (asgS 1 (blt lenD (consL (var 0) nilL)))
  (seqS (ifS (notB (asB (blt allBD (consL (frzE (lcF [4] (seqI (var 0)) (.nm 4) yes (callP F_is_line (consL (var 1) (consL (var 4) nilL))))) nilL)))) (rtS (cst (.bool false))) nilS)
  (rtS (blt allBD (consL (frzE (lc2F [2, 3] [3] (rng1 (consL (var 1) nilL)) (.nm 2) yes (rng1 (consL (var 1) nilL)) (.nm 3) yes (bin eqD (ixE (ixE (var 0) (var 2)) (var 3)) (un negD (ixE (ixE (var 0) (var 3)) (var 2)))))) nilL))))))
def F_is_web : FnP := runP 5 1 D_is_web
theorem b_is_web {cdv : Value} {A : Around} {outer : List Env} {s : Shared} {H : Hp} {E : XK} {f : Addr} (T : Tx K mg) (C_is_line : CalP P w K mg base "is_line" 3 ["n", "value"] F_is_line) (hr : Room 3 (A.deeper (envOfC "is_web" (defScope s_is_web) s.heap.objs.size f cdv))) :
    QB (cxOf (L2N.CX P w) P w K mg base N_is_web "is_web" (defScope s_is_web) f cdv A outer s H E) (WE0 E) (defBody s_is_web) D_is_web :=
  (b_cons (s_if (t_bool (w_or (t_not (t_val (q_is T.n_isinstance T.n_tuple (by decide +kernel) (v_ 0)))) (w_or1 (t_not (t_cc (cLe) (cLe) q_int (q_b bLen T.n_len (by decide +kernel) (a_cons (v_ 0) a_nil)) (c_int T.i_MOST_NODES)))))) (b_one (s_ret q_bl)) b_nil)
  (b_cons (s_set (ps_set (i := 1) sc_is_web.nd rfl (by first | exact .inl rfl | exact .inr rfl) (q_b bLen T.n_len (by decide +kernel) (a_cons (v_ 0) a_nil))))
  (b_cons (s_if (t_not (t_val (q_b (bAll rfl) T.n_all (by decide +kernel) (a_cons (q_frz (f_lc (own := [("line", 4)]) rfl sc_is_web.nd (i_seq (v_ 0)) (blkOk_by (N := N_is_web) (sc := defScope s_is_web) (own := [("line", 4)]) (by decide +kernel)) (by decide) (fun _ _ _ _ _ => (pg_name (i := 4) sc_is_web.nd rfl (by first | exact .inl rfl | exact .inr rfl))) (fun _ _ _ _ _ => ts_nil) (fun _ _ _ _ _ => (q_p C_is_line hr (by omega) takesN (a_cons (v_ 1) (a_cons (v_ 4) a_nil)))))) a_nil)))) (b_one (s_ret q_bl)) b_nil)
  (b_one (s_ret (q_b (bAll rfl) T.n_all (by decide +kernel) (a_cons (q_frz (f_lc2 (own := [("y", 2), ("z", 3)]) (vs1 := [3]) rfl sc_is_web.nd (i_rng1 (by rfl) T.n_range (a_cons (v_ 1) a_nil)) (blkOk_by (N := N_is_web) (sc := defScope s_is_web) (own := [("y", 2), ("z", 3)]) (by decide +kernel)) (by decide) (by decide) (by decide) (fun _ _ _ _ _ => (pg_name (i := 2) sc_is_web.nd rfl (by first | exact .inl rfl | exact .inr rfl))) (fun _ _ _ _ _ => ts_nil) (fun _ _ _ _ _ => (i_rng1 (by rfl) T.n_range (a_cons (v_ 1) a_nil))) (fun _ _ _ _ _ => (pg_name (i := 3) sc_is_web.nd rfl (by first | exact .inl rfl | exact .inr rfl))) (fun _ _ _ _ _ => ts_nil) (fun _ _ _ _ _ => (q_c (cEq hr) (q_ix (q_ix (v_ 0) (v_ 2) (fun _ _ => rfl)) (v_ 3) (fun _ _ => rfl)) (q_neg (q_ix (q_ix (v_ 0) (v_ 3) (fun _ _ => rfl)) (v_ 2) (fun _ _ => rfl))))))) a_nil)))))))
theorem ok_is_web {f : Addr} {fd : FuncData} (T : Tx K mg) (C_is_line : CalP P w K mg base "is_line" 3 ["n", "value"] F_is_line) (F : FnD K "is_web" s_is_web f fd) (hm : mg "is_web" = some (.ref f)) : CalP P w K mg base "is_web" 4 ["value"] F_is_web :=
  ⟨fn_okP F sc_is_web fun cdv A outer s H E hr => b_is_web T C_is_line hr, hm, F.kp, F.bindsN (fun _ _ _ _ _ _ us hl => match us, hl with | [_], _ => rfl), runP_len⟩
abbrev s_need_web : Stmt := top 17
abbrev N_need_web : List Str := ["value"]
theorem sc_need_web : FnScope N_need_web ["value"] (defScope s_need_web) := ⟨rfl, rfl, rfl, by decide +kernel, rfl, by decide +kernel, by decide +kernel⟩
def D_need_web : DS :=
  (ifS (notB (asB (callP F_is_web (consL (var 0) nilL)))) (raS "BadWeb") nilS)
def F_need_web : FnP := runP 1 1 D_need_web
theorem b_need_web {cdv : Value} {A : Around} {outer : List Env} {s : Shared} {H : Hp} {E : XK} {f : Addr} (T : Tx K mg) (C_is_web : CalP P w K mg base "is_web" 4 ["value"] F_is_web) (hr : Room 4 (A.deeper (envOfC "need_web" (defScope s_need_web) s.heap.objs.size f cdv))) :
    QB (cxOf (L2N.CX P w) P w K mg base N_need_web "need_web" (defScope s_need_web) f cdv A outer s H E) (WE0 E) (defBody s_need_web) D_need_web :=
  (b_one (s_if (t_not (t_val (q_p C_is_web hr (by omega) (L2N.takes_of rfl rfl rfl rfl) (a_cons (v_ 0) a_nil)))) (b_one (s_ra rfl (L2N.takes_of rfl rfl rfl rfl) T.e_BadWeb)) b_nil))
theorem ok_need_web {f : Addr} {fd : FuncData} (T : Tx K mg) (C_is_web : CalP P w K mg base "is_web" 4 ["value"] F_is_web) (F : FnD K "need_web" s_need_web f fd) (hm : mg "need_web" = some (.ref f)) : CalP P w K mg base "need_web" 5 ["value"] F_need_web :=
  ⟨fn_okP F sc_need_web fun cdv A outer s H E hr => b_need_web T C_is_web hr, hm, F.kp, F.bindsN (fun _ _ _ _ _ _ us hl => match us, hl with | [_], _ => rfl), runP_len⟩
abbrev s_neighbours : Stmt := top 25
abbrev N_neighbours : List Str := ["web", "x", "z"]
theorem sc_neighbours : FnScope N_neighbours ["web", "x"] (defScope s_neighbours) := ⟨rfl, rfl, rfl, by decide +kernel, rfl, by decide +kernel, by decide +kernel⟩
def D_neighbours : DS :=
  (rtS (frzE (lcF [2] (rng1 (consL (blt lenD (consL (var 0) nilL)) nilL)) (.nm 2) (asB (bin neD (ixE (ixE (var 0) (var 1)) (var 2)) (cst (.int 0)))) (var 2))))
def F_neighbours : FnP := runP 3 2 D_neighbours
theorem b_neighbours {cdv : Value} {A : Around} {outer : List Env} {s : Shared} {H : Hp} {E : XK} {f : Addr} (T : Tx K mg)  (hr : Room 0 (A.deeper (envOfC "neighbours" (defScope s_neighbours) s.heap.objs.size f cdv))) :
    QB (cxOf (L2N.CX P w) P w K mg base N_neighbours "neighbours" (defScope s_neighbours) f cdv A outer s H E) (WE0 E) (defBody s_neighbours) D_neighbours :=
  (b_one (s_ret (q_frz (f_lc (own := [("z", 2)]) rfl sc_neighbours.nd (i_rng1 (by rfl) T.n_range (a_cons (q_b bLen T.n_len (by decide +kernel) (a_cons (v_ 0) a_nil)) a_nil)) (blkOk_by (N := N_neighbours) (sc := defScope s_neighbours) (own := [("z", 2)]) (by decide +kernel)) (by decide) (fun _ _ _ _ _ => (pg_name (i := 2) sc_neighbours.nd rfl (by first | exact .inl rfl | exact .inr rfl))) (fun _ _ _ _ _ => (ts_one (t_c (cNe hr) (q_ix (q_ix (v_ 0) (v_ 1) (fun _ _ => rfl)) (v_ 2) (fun _ _ => rfl)) q_int))) (fun _ _ _ _ _ => (v_ 2))))))
theorem ok_neighbours {f : Addr} {fd : FuncData} (T : Tx K mg)  (F : FnD K "neighbours" s_neighbours f fd) (hm : mg "neighbours" = some (.ref f)) : CalP P w K mg base "neighbours" 1 ["web", "x"] F_neighbours :=
  ⟨fn_okP F sc_neighbours fun cdv A outer s H E hr => b_neighbours T  hr, hm, F.kp, F.bindsN (fun _ _ _ _ _ _ us hl => match us, hl with | [_, _], _ => rfl), runP_len⟩
abbrev s_is_simple : Stmt := top 27
abbrev N_is_simple : List Str := ["web", "line", "many"]
theorem sc_is_simple : FnScope N_is_simple ["web"] (defScope s_is_simple) := ⟨rfl, rfl, rfl, by decide +kernel, rfl, by decide +kernel, by decide +kernel⟩
def D_is_simple : DS :=
  (rtS (blt allBD (consL (frzE (lc2F [1, 2] [2] (seqI (var 0)) (.nm 1) yes (seqI (var 1)) (.nm 2) yes (bin leI (blt absD (consL (var 2) nilL)) (cst (.int 1))))) nilL)))
def F_is_simple : FnP := runP 3 1 D_is_simple
theorem b_is_simple {cdv : Value} {A : Around} {outer : List Env} {s : Shared} {H : Hp} {E : XK} {f : Addr} (T : Tx K mg)  (hr : Room 0 (A.deeper (envOfC "is_simple" (defScope s_is_simple) s.heap.objs.size f cdv))) :
    QB (cxOf (L2N.CX P w) P w K mg base N_is_simple "is_simple" (defScope s_is_simple) f cdv A outer s H E) (WE0 E) (defBody s_is_simple) D_is_simple :=
  (b_one (s_ret (q_b (bAll rfl) T.n_all (by decide +kernel) (a_cons (q_frz (f_lc2 (own := [("line", 1), ("many", 2)]) (vs1 := [2]) rfl sc_is_simple.nd (i_seq (v_ 0)) (blkOk_by (N := N_is_simple) (sc := defScope s_is_simple) (own := [("line", 1), ("many", 2)]) (by decide +kernel)) (by decide) (by decide) (by decide) (fun _ _ _ _ _ => (pg_name (i := 1) sc_is_simple.nd rfl (by first | exact .inl rfl | exact .inr rfl))) (fun _ _ _ _ _ => ts_nil) (fun _ _ _ _ _ => (i_seq (v_ 1))) (fun _ _ _ _ _ => (pg_name (i := 2) sc_is_simple.nd rfl (by first | exact .inl rfl | exact .inr rfl))) (fun _ _ _ _ _ => ts_nil) (fun _ _ _ _ _ => (q_c (cLe) (q_b bAbs T.n_abs (by decide +kernel) (a_cons (v_ 2) a_nil)) q_int)))) a_nil))))
theorem ok_is_simple {f : Addr} {fd : FuncData} (T : Tx K mg)  (F : FnD K "is_simple" s_is_simple f fd) (hm : mg "is_simple" = some (.ref f)) : CalP P w K mg base "is_simple" 1 ["web"] F_is_simple :=
  ⟨fn_okP F sc_is_simple fun cdv A outer s H E hr => b_is_simple T  hr, hm, F.kp, F.bindsN (fun _ _ _ _ _ _ us hl => match us, hl with | [_], _ => rfl), runP_len⟩
abbrev s_parts_of : Stmt := top 26
abbrev N_parts_of : List Str := ["web", "found", "seen", "x", "part", "here", "z"]
theorem sc_parts_of : FnScope N_parts_of ["web"] (defScope s_parts_of) := ⟨rfl, rfl, rfl, by decide +kernel, rfl, by decide +kernel, by decide +kernel⟩
def D_parts_of : DS :=
  (seqS (parS [1, 2] (consL (ownE (szF nilL)) (consL (ownE (szF nilL)) nilL)))
  (seqS (forS (rng1 (consL (blt lenD (consL (var 0) nilL)) nilL)) (.nm 3) (ifS (asB (bin notInD (var 3) (var 2))) (seqS (parS [4, 5] (consL (ownE (szF (consL (var 3) nilL))) (consL (ownE (szF (consL (var 3) nilL))) nilL)))
  (seqS (whS fuel (asB (bin neD (var 5) (frzE (szF nilL)))) (forS (seqI (callP F_neighbours (consL (var 0) (consL (metE popM (var 5) nilL) nilL)))) (.nm 6) (ifS (asB (bin notInD (var 6) (var 4))) (seqS (exS (metE appM (var 4) (consL (var 6) nilL)))
  (exS (metE appM (var 5) (consL (var 6) nilL)))) nilS)))
  (seqS (exS (metE appM (var 1) (consL (blt tupD (consL (blt sortD (consL (var 4) nilL)) nilL)) nilL)))
  (exS (extE (var 2) (var 4)))))) nilS))
  (rtS (var 1))))
def F_parts_of : FnP := runP 7 1 D_parts_of
theorem b_parts_of {cdv : Value} {A : Around} {outer : List Env} {s : Shared} {H : Hp} {E : XK} {f : Addr} (T : Tx K mg) (C_neighbours : CalP P w K mg base "neighbours" 1 ["web", "x"] F_neighbours) (hr : Room 1 (A.deeper (envOfC "parts_of" (defScope s_parts_of) s.heap.objs.size f cdv))) :
    QB (cxOf (L2N.CX P w) P w K mg base N_parts_of "parts_of" (defScope s_parts_of) f cdv A outer s H E) (WE0 E) (defBody s_parts_of) D_parts_of :=
  (b_cons (s_par (ps_par (i := 1) (j := 2) rfl sc_parts_of.nd rfl rfl (by decide) rfl rfl (a_cons (q_own (f_lst a_nil)) (a_cons (q_own (f_lst a_nil)) a_nil)) (by rfl)))
  (b_cons (s_for (passes_of rfl) rfl (i_rng1 (by rfl) T.n_range (a_cons (q_b bLen T.n_len (by decide +kernel) (a_cons (v_ 0) a_nil)) a_nil)) (pg_name (i := 3) sc_parts_of.nd rfl (by first | exact .inl rfl | exact .inr rfl)) (b_one (s_if (t_c (cNotIn hr) (v_ 3) (v_ 2)) (b_cons (s_par (ps_par (i := 4) (j := 5) rfl sc_parts_of.nd rfl rfl (by decide) rfl rfl (a_cons (q_own (f_lst (a_cons (v_ 3) a_nil))) (a_cons (q_own (f_lst (a_cons (v_ 3) a_nil))) a_nil)) (by rfl)))
  (b_cons (s_while (n := fuel) (passes_of rfl) (t_c (cNe hr) (v_ 5) (q_frz (f_lst a_nil))) (b_one (s_for (passes_of rfl) rfl (i_seq (q_p C_neighbours hr (by omega) (L2N.takes_of rfl rfl rfl rfl) (a_cons (v_ 0) (a_cons (q_met0 m_pop (pe_bm0 PySem.F.plainAttrs_list PySem.F.slot_list_pop PySem.F.type_list_pop mt_pop (v_ 5))) a_nil)))) (pg_name (i := 6) sc_parts_of.nd rfl (by first | exact .inl rfl | exact .inr rfl)) (b_one (s_if (t_c (cNotIn hr) (v_ 6) (v_ 4)) (b_cons (s_expr (q_met m_app (pe_bm PySem.F.plainAttrs_list PySem.F.slot_list_append PySem.F.type_list_append mt_append (v_ 4) (a_cons (v_ 6) a_nil))))
  (b_one (s_expr (q_met m_app (pe_bm PySem.F.plainAttrs_list PySem.F.slot_list_append PySem.F.type_list_append mt_append (v_ 5) (a_cons (v_ 6) a_nil)))))) b_nil)))))
  (b_cons (s_expr (q_met m_app (pe_bm PySem.F.plainAttrs_list PySem.F.slot_list_append PySem.F.type_list_append mt_append (v_ 1) (a_cons (q_bt bTuple T.n_tuple (by decide +kernel) (a_cons (q_b (bSorted hr rfl) T.n_sorted (by decide +kernel) (a_cons (v_ 4) a_nil)) a_nil)) a_nil))))
  (b_one (s_expr (q_ext (pe_bm PySem.F.plainAttrs_list PySem.F.slot_list_extend PySem.F.type_list_extend mt_extend (v_ 2) (a_cons (v_ 4) a_nil)))))))) b_nil)))
  (b_one (s_ret (v_ 1)))))
theorem ok_parts_of {f : Addr} {fd : FuncData} (T : Tx K mg) (C_neighbours : CalP P w K mg base "neighbours" 1 ["web", "x"] F_neighbours) (F : FnD K "parts_of" s_parts_of f fd) (hm : mg "parts_of" = some (.ref f)) : CalP P w K mg base "parts_of" 2 ["web"] F_parts_of :=
  ⟨fn_okP F sc_parts_of fun cdv A outer s H E hr => b_parts_of T C_neighbours hr, hm, F.kp, F.bindsN (fun _ _ _ _ _ _ us hl => match us, hl with | [_], _ => rfl), runP_len⟩
abbrev s_arrows_of : Stmt := top 18
abbrev N_arrows_of : List Str := ["web", "n", "y", "z"]
theorem sc_arrows_of : FnScope N_arrows_of ["web"] (defScope s_arrows_of) := ⟨rfl, rfl, rfl, by decide +kernel, rfl, by decide +kernel, by decide +kernel⟩
def D_arrows_of : DS :=
  (seqS (asgS 1 (blt lenD (consL (var 0) nilL)))
  (rtS (frzE (lc2F [2, 3] [3] (rng1 (consL (var 1) nilL)) (.nm 2) yes (rng1 (consL (var 1) nilL)) (.nm 3) (asB (bin gtI (ixE (ixE (var 0) (var 2)) (var 3)) (cst (.int 0)))) (tupE (consL (var 2) (consL (var 3) (consL (ixE (ixE (var 0) (var 2)) (var 3)) nilL))))))))
def F_arrows_of : FnP := runP 4 1 D_arrows_of
theorem b_arrows_of {cdv : Value} {A : Around} {outer : List Env} {s : Shared} {H : Hp} {E : XK} {f : Addr} (T : Tx K mg)  (hr : Room 0 (A.deeper (envOfC "arrows_of" (defScope s_arrows_of) s.heap.objs.size f cdv))) :
    QB (cxOf (L2N.CX P w) P w K mg base N_arrows_of "arrows_of" (defScope s_arrows_of) f cdv A outer s H E) (WE0 E) (defBody s_arrows_of) D_arrows_of :=
  (b_cons (s_set (ps_set (i := 1) sc_arrows_of.nd rfl (by first | exact .inl rfl | exact .inr rfl) (q_b bLen T.n_len (by decide +kernel) (a_cons (v_ 0) a_nil))))
  (b_one (s_ret (q_frz (f_lc2 (own := [("y", 2), ("z", 3)]) (vs1 := [3]) rfl sc_arrows_of.nd (i_rng1 (by rfl) T.n_range (a_cons (v_ 1) a_nil)) (blkOk_by (N := N_arrows_of) (sc := defScope s_arrows_of) (own := [("y", 2), ("z", 3)]) (by decide +kernel)) (by decide) (by decide) (by decide) (fun _ _ _ _ _ => (pg_name (i := 2) sc_arrows_of.nd rfl (by first | exact .inl rfl | exact .inr rfl))) (fun _ _ _ _ _ => ts_nil) (fun _ _ _ _ _ => (i_rng1 (by rfl) T.n_range (a_cons (v_ 1) a_nil))) (fun _ _ _ _ _ => (pg_name (i := 3) sc_arrows_of.nd rfl (by first | exact .inl rfl | exact .inr rfl))) (fun _ _ _ _ _ => (ts_one (t_c (cGt) (q_ix (q_ix (v_ 0) (v_ 2) (fun _ _ => rfl)) (v_ 3) (fun _ _ => rfl)) q_int))) (fun _ _ _ _ _ => (q_tup (a_cons (v_ 2) (a_cons (v_ 3) (a_cons (q_ix (q_ix (v_ 0) (v_ 2) (fun _ _ => rfl)) (v_ 3) (fun _ _ => rfl)) a_nil))))))))))
theorem ok_arrows_of {f : Addr} {fd : FuncData} (T : Tx K mg)  (F : FnD K "arrows_of" s_arrows_of f fd) (hm : mg "arrows_of" = some (.ref f)) : CalP P w K mg base "arrows_of" 1 ["web"] F_arrows_of :=
  ⟨fn_okP F sc_arrows_of fun cdv A outer s H E hr => b_arrows_of T  hr, hm, F.kp, F.bindsN (fun _ _ _ _ _ _ us hl => match us, hl with | [_], _ => rfl), runP_len⟩
abbrev s_is_a_tree : Stmt := top 28
abbrev N_is_a_tree : List Str := ["web"]
theorem sc_is_a_tree : FnScope N_is_a_tree ["web"] (defScope s_is_a_tree) := ⟨rfl, rfl, rfl, by decide +kernel, rfl, by decide +kernel, by decide +kernel⟩
def D_is_a_tree : DS :=
  (rtS (andV (callP F_is_simple (consL (var 0) nilL)) (andV (bin eqD (blt lenD (consL (callP F_parts_of (consL (var 0) nilL)) nilL)) (cst (.int 1))) (bin eqD (blt lenD (consL (callP F_arrows_of (consL (var 0) nilL)) nilL)) (bin subD (blt lenD (consL (var 0) nilL)) (cst (.int 1)))))))
def F_is_a_tree : FnP := runP 1 1 D_is_a_tree
theorem b_is_a_tree {cdv : Value} {A : Around} {outer : List Env} {s : Shared} {H : Hp} {E : XK} {f : Addr} (T : Tx K mg) (C_is_simple : CalP P w K mg base "is_simple" 1 ["web"] F_is_simple) (C_parts_of : CalP P w K mg base "parts_of" 2 ["web"] F_parts_of) (C_arrows_of : CalP P w K mg base "arrows_of" 1 ["web"] F_arrows_of) (hr : Room 2 (A.deeper (envOfC "is_a_tree" (defScope s_is_a_tree) s.heap.objs.size f cdv))) :
    QB (cxOf (L2N.CX P w) P w K mg base N_is_a_tree "is_a_tree" (defScope s_is_a_tree) f cdv A outer s H E) (WE0 E) (defBody s_is_a_tree) D_is_a_tree :=
  (b_one (s_ret (q_and (q_p C_is_simple hr (by omega) (L2N.takes_of rfl rfl rfl rfl) (a_cons (v_ 0) a_nil)) (q_and (q_c (cEq hr) (q_b bLen T.n_len (by decide +kernel) (a_cons (q_p C_parts_of hr (by omega) (L2N.takes_of rfl rfl rfl rfl) (a_cons (v_ 0) a_nil)) a_nil)) q_int) (q_one (q_c (cEq hr) (q_b bLen T.n_len (by decide +kernel) (a_cons (q_p C_arrows_of hr (by omega) (L2N.takes_of rfl rfl rfl rfl) (a_cons (v_ 0) a_nil)) a_nil)) (q_sub (q_b bLen T.n_len (by decide +kernel) (a_cons (v_ 0) a_nil)) q_int)))))))
theorem ok_is_a_tree {f : Addr} {fd : FuncData} (T : Tx K mg) (C_is_simple : CalP P w K mg base "is_simple" 1 ["web"] F_is_simple) (C_parts_of : CalP P w K mg base "parts_of" 2 ["web"] F_parts_of) (C_arrows_of : CalP P w K mg base "arrows_of" 1 ["web"] F_arrows_of) (F : FnD K "is_a_tree" s_is_a_tree f fd) (hm : mg "is_a_tree" = some (.ref f)) : CalP P w K mg base "is_a_tree" 3 ["web"] F_is_a_tree :=
  ⟨fn_okP F sc_is_a_tree fun cdv A outer s H E hr => b_is_a_tree T C_is_simple C_parts_of C_arrows_of hr, hm, F.kp, F.bindsN (fun _ _ _ _ _ _ us hl => match us, hl with | [_], _ => rfl), runP_len⟩
abbrev s_is_good_tree : Stmt := top 63
abbrev N_is_good_tree : List Str := ["web", "many", "near", "ends", "x", "z"]
theorem sc_is_good_tree : FnScope N_is_good_tree ["web"] (defScope s_is_good_tree) := ⟨rfl, rfl, rfl, by decide +kernel, rfl, by decide +kernel, by decide +kernel⟩
def D_is_good_tree : DS :=
  (seqS (ifS (notB (asB (callP F_is_a_tree (consL (var 0) nilL)))) (rtS (cst (.bool false))) nilS)
  (seqS (asgS 1 (frzE (lcF [4] (rng1 (consL (blt lenD (consL (var 0) nilL)) nilL)) (.nm 4) yes (blt lenD (consL (callP F_neighbours (consL (var 0) (consL (var 4) nilL))) nilL)))))
  (seqS (ifS (orB (asB (bin gtI (blt maxLD (consL (var 1) nilL)) (cst (.int 3)))) (asB (bin gtI (rdE cntM (var 1) (consL (cst (.int 3)) nilL)) (cst (.int 1))))) (rtS (cst (.bool false))) nilS)
  (seqS (ifS (asB (bin eqD (rdE cntM (var 1) (consL (cst (.int 3)) nilL)) (cst (.int 0)))) (rtS (cst (.bool true))) nilS)
  (seqS (asgS 2 (callP F_neighbours (consL (var 0) (consL (rdE idxM (var 1) (consL (cst (.int 3)) nilL)) nilL))))
  (seqS (asgS 3 (frzE (lcF [5] (seqI (var 2)) (.nm 5) (asB (bin eqD (ixE (var 1) (var 5)) (cst (.int 1)))) (var 5))))
  (rtS (orV (bin gtI (blt lenD (consL (var 3) nilL)) (cst (.int 1))) (andV (bin eqD (blt lenD (consL (var 3) nilL)) (cst (.int 1))) (bin eqD (blt lenD (consL (var 0) nilL)) (cst (.int 6))))))))))))
def F_is_good_tree : FnP := runP 6 1 D_is_good_tree
theorem b_is_good_tree {cdv : Value} {A : Around} {outer : List Env} {s : Shared} {H : Hp} {E : XK} {f : Addr} (T : Tx K mg) (C_neighbours : CalP P w K mg base "neighbours" 1 ["web", "x"] F_neighbours) (C_is_a_tree : CalP P w K mg base "is_a_tree" 3 ["web"] F_is_a_tree) (hr : Room 3 (A.deeper (envOfC "is_good_tree" (defScope s_is_good_tree) s.heap.objs.size f cdv))) :
    QB (cxOf (L2N.CX P w) P w K mg base N_is_good_tree "is_good_tree" (defScope s_is_good_tree) f cdv A outer s H E) (WE0 E) (defBody s_is_good_tree) D_is_good_tree :=
  (b_cons (s_if (t_not (t_val (q_p C_is_a_tree hr (by omega) (L2N.takes_of rfl rfl rfl rfl) (a_cons (v_ 0) a_nil)))) (b_one (s_ret q_bl)) b_nil)
  (b_cons (s_set (ps_set (i := 1) sc_is_good_tree.nd rfl (by first | exact .inl rfl | exact .inr rfl) (q_frz (f_lc (own := [("x", 4)]) rfl sc_is_good_tree.nd (i_rng1 (by rfl) T.n_range (a_cons (q_b bLen T.n_len (by decide +kernel) (a_cons (v_ 0) a_nil)) a_nil)) (blkOk_by (N := N_is_good_tree) (sc := defScope s_is_good_tree) (own := [("x", 4)]) (by decide +kernel)) (by decide) (fun _ _ _ _ _ => (pg_name (i := 4) sc_is_good_tree.nd rfl (by first | exact .inl rfl | exact .inr rfl))) (fun _ _ _ _ _ => ts_nil) (fun _ _ _ _ _ => (q_b bLen T.n_len (by decide +kernel) (a_cons (q_p C_neighbours hr (by omega) takesN (a_cons (v_ 0) (a_cons (v_ 4) a_nil))) a_nil)))))))
  (b_cons (s_if (t_bool (w_or (t_c (cGt) (q_b (bMaxL rfl) T.n_max (by decide +kernel) (a_cons (v_ 1) a_nil)) q_int) (w_or1 (t_c (cGt) (q_cnt (pe_bm PySem.F.plainAttrs_list PySem.F.slot_list_count PySem.F.type_list_count mt_lcount (v_ 1) (a_cons q_int a_nil))) q_int)))) (b_one (s_ret q_bl)) b_nil)
  (b_cons (s_if (t_c (cEq hr) (q_cnt (pe_bm PySem.F.plainAttrs_list PySem.F.slot_list_count PySem.F.type_list_count mt_lcount (v_ 1) (a_cons q_int a_nil))) q_int) (b_one (s_ret q_bl)) b_nil)
  (b_cons (s_set (ps_set (i := 2) sc_is_good_tree.nd rfl (by first | exact .inl rfl | exact .inr rfl) (q_p C_neighbours hr (by omega) (L2N.takes_of rfl rfl rfl rfl) (a_cons (v_ 0) (a_cons (q_idx (pe_bm PySem.F.plainAttrs_list PySem.F.slot_list_index PySem.F.type_list_index mt_index (v_ 1) (a_cons q_int a_nil))) a_nil)))))
  (b_cons (s_setLc Keeps.frz (own := [("z", 5)]) rfl sc_is_good_tree.nd rfl rfl (sw_true rfl rfl rfl (by decide +kernel)) (i_seq (v_ 2)) (blkOk_by (N := N_is_good_tree) (sc := defScope s_is_good_tree) (own := [("z", 5)]) (by decide +kernel)) (by decide) (fun _ _ _ _ _ => (pg_name (i := 5) sc_is_good_tree.nd rfl (by first | exact .inl rfl | exact .inr rfl))) (fun _ _ _ _ _ => (ts_one (t_c (cEq hr) (q_ix (v_ 1) (v_ 5) (fun _ _ => rfl)) q_int))) (fun _ _ _ _ _ => (v_ 5)))
  (b_one (s_ret (q_or (q_c (cGt) (q_b bLen T.n_len (by decide +kernel) (a_cons (v_ 3) a_nil)) q_int) (q_one (q_and (q_c (cEq hr) (q_b bLen T.n_len (by decide +kernel) (a_cons (v_ 3) a_nil)) q_int) (q_one (q_c (cEq hr) (q_b bLen T.n_len (by decide +kernel) (a_cons (v_ 0) a_nil)) q_int)))))))))))))
theorem ok_is_good_tree {f : Addr} {fd : FuncData} (T : Tx K mg) (C_neighbours : CalP P w K mg base "neighbours" 1 ["web", "x"] F_neighbours) (C_is_a_tree : CalP P w K mg base "is_a_tree" 3 ["web"] F_is_a_tree) (F : FnD K "is_good_tree" s_is_good_tree f fd) (hm : mg "is_good_tree" = some (.ref f)) : CalP P w K mg base "is_good_tree" 4 ["web"] F_is_good_tree :=
  ⟨fn_okP F sc_is_good_tree fun cdv A outer s H E hr => b_is_good_tree T C_neighbours C_is_a_tree hr, hm, F.kp, F.bindsN (fun _ _ _ _ _ _ us hl => match us, hl with | [_], _ => rfl), runP_len⟩
abbrev s_need_good_tree : Stmt := top 69
abbrev N_need_good_tree : List Str := ["web"]
theorem sc_need_good_tree : FnScope N_need_good_tree ["web"] (defScope s_need_good_tree) := ⟨rfl, rfl, rfl, by decide +kernel, rfl, by decide +kernel, by decide +kernel⟩
def D_need_good_tree : DS :=
  (ifS (orB (asB (bin ltI (blt lenD (consL (var 0) nilL)) (cst (.int 2)))) (notB (asB (callP F_is_good_tree (consL (var 0) nilL))))) (raS "NoTree") nilS)
def F_need_good_tree : FnP := runP 1 1 D_need_good_tree
theorem b_need_good_tree {cdv : Value} {A : Around} {outer : List Env} {s : Shared} {H : Hp} {E : XK} {f : Addr} (T : Tx K mg) (C_is_good_tree : CalP P w K mg base "is_good_tree" 4 ["web"] F_is_good_tree) (hr : Room 4 (A.deeper (envOfC "need_good_tree" (defScope s_need_good_tree) s.heap.objs.size f cdv))) :
    QB (cxOf (L2N.CX P w) P w K mg base N_need_good_tree "need_good_tree" (defScope s_need_good_tree) f cdv A outer s H E) (WE0 E) (defBody s_need_good_tree) D_need_good_tree :=
  (b_one (s_if (t_bool (w_or (t_c (cLt) (q_b bLen T.n_len (by decide +kernel) (a_cons (v_ 0) a_nil)) q_int) (w_or1 (t_not (t_val (q_p C_is_good_tree hr (by omega) (L2N.takes_of rfl rfl rfl rfl) (a_cons (v_ 0) a_nil))))))) (b_one (s_ra rfl (L2N.takes_of rfl rfl rfl rfl) T.e_NoTree)) b_nil))
theorem ok_need_good_tree {f : Addr} {fd : FuncData} (T : Tx K mg) (C_is_good_tree : CalP P w K mg base "is_good_tree" 4 ["web"] F_is_good_tree) (F : FnD K "need_good_tree" s_need_good_tree f fd) (hm : mg "need_good_tree" = some (.ref f)) : CalP P w K mg base "need_good_tree" 5 ["web"] F_need_good_tree :=
  ⟨fn_okP F sc_need_good_tree fun cdv A outer s H E hr => b_need_good_tree T C_is_good_tree hr, hm, F.kp, F.bindsN (fun _ _ _ _ _ _ us hl => match us, hl with | [_], _ => rfl), runP_len⟩
abbrev s_sides_of : Stmt := top 68
abbrev N_sides_of : List Str := ["web", "far", "here", "x", "z"]
theorem sc_sides_of : FnScope N_sides_of ["web"] (defScope s_sides_of) := ⟨rfl, rfl, rfl, by decide +kernel, rfl, by decide +kernel, by decide +kernel⟩
def D_sides_of : DS :=
  (seqS (parS [1, 2] (consL (diN 0 0) (consL (ownE (szF (consL (cst (.int 0)) nilL))) nilL)))
  (seqS (whS fuel (asB (bin neD (var 2) (frzE (szF nilL)))) (seqS (asgS 3 (metE popM (var 2) nilL))
  (forS (seqI (callP F_neighbours (consL (var 0) (consL (var 3) nilL)))) (.nm 4) (ifS (asB (inI true (var 4) (var 1))) (seqS (putIS (bin addD (ixI (var 1) (var 3)) (cst (.int 1))) (var 1) (var 4))
  (exS (metE appM (var 2) (consL (var 4) nilL)))) nilS))))
  (rtS (tupE (consL (frzE (lcF [3] (seqI (frzE (srtI (consL (var 1) nilL)))) (.nm 3) (asB (bin eqD (bin modD (ixI (var 1) (var 3)) (cst (.int 2))) (cst (.int 0)))) (var 3))) (consL (frzE (lcF [3] (seqI (frzE (srtI (consL (var 1) nilL)))) (.nm 3) (asB (bin eqD (bin modD (ixI (var 1) (var 3)) (cst (.int 2))) (cst (.int 1)))) (var 3))) nilL))))))
def F_sides_of : FnP := runP 5 1 D_sides_of
theorem b_sides_of {cdv : Value} {A : Around} {outer : List Env} {s : Shared} {H : Hp} {E : XK} {f : Addr} (T : Tx K mg) (C_neighbours : CalP P w K mg base "neighbours" 1 ["web", "x"] F_neighbours) (hr : Room 1 (A.deeper (envOfC "sides_of" (defScope s_sides_of) s.heap.objs.size f cdv))) :
    QB (cxOf (L2N.CX P w) P w K mg base N_sides_of "sides_of" (defScope s_sides_of) f cdv A outer s H E) (WE0 E) (defBody s_sides_of) D_sides_of :=
  (b_cons (s_parT (is := [1, 2]) (ps_asg (pe_tup (a_cons q_diN (a_cons (q_own (f_lst (a_cons q_int a_nil))) a_nil))) (pg_tup rfl (pgs_cons (pg_name (i := 1) sc_sides_of.nd rfl (by first | exact .inl rfl | exact .inr rfl)) (pgs_cons (pg_name (i := 2) sc_sides_of.nd rfl (by first | exact .inl rfl | exact .inr rfl)) pgs_nil)))))
  (b_cons (s_while (n := fuel) (passes_of rfl) (t_c (cNe hr) (v_ 2) (q_frz (f_lst a_nil))) (b_cons (s_set (ps_set (i := 3) sc_sides_of.nd rfl (by first | exact .inl rfl | exact .inr rfl) (q_met0 m_pop (pe_bm0 PySem.F.plainAttrs_list PySem.F.slot_list_pop PySem.F.type_list_pop mt_pop (v_ 2)))))
  (b_one (s_for (passes_of rfl) rfl (i_seq (q_p C_neighbours hr (by omega) (L2N.takes_of rfl rfl rfl rfl) (a_cons (v_ 0) (a_cons (v_ 3) a_nil)))) (pg_name (i := 4) sc_sides_of.nd rfl (by first | exact .inl rfl | exact .inr rfl)) (b_one (s_if (t_ninI hr (v_ 4) (v_ 1)) (b_cons (s_putI (ps_asg (q_add (q_ixI hr (v_ 1) (v_ 3) (fun _ _ => rfl)) q_int) (pg_sub (v_ 1) (v_ 4) (set_dict (u1 hr)))))
  (b_one (s_expr (q_met m_app (pe_bm PySem.F.plainAttrs_list PySem.F.slot_list_append PySem.F.type_list_append mt_append (v_ 2) (a_cons (v_ 4) a_nil)))))) b_nil))))))
  (b_one (s_ret (q_tup (a_cons (q_frz (f_lc (own := [("x", 3)]) rfl sc_sides_of.nd (i_seq (q_frz (q_srtI rfl T.n_sorted (a_cons (v_ 1) a_nil)))) (blkOk_by (N := N_sides_of) (sc := defScope s_sides_of) (own := [("x", 3)]) (by decide +kernel)) (by decide) (fun _ _ _ _ _ => (pg_name (i := 3) sc_sides_of.nd rfl (by first | exact .inl rfl | exact .inr rfl))) (fun _ _ _ _ _ => (ts_one (t_c (cEq hr) (q_mod (q_ixI hr (v_ 1) (v_ 3) (fun _ _ => rfl)) q_int) q_int))) (fun _ _ _ _ _ => (v_ 3)))) (a_cons (q_frz (f_lc (own := [("x", 3)]) rfl sc_sides_of.nd (i_seq (q_frz (q_srtI rfl T.n_sorted (a_cons (v_ 1) a_nil)))) (blkOk_by (N := N_sides_of) (sc := defScope s_sides_of) (own := [("x", 3)]) (by decide +kernel)) (by decide) (fun _ _ _ _ _ => (pg_name (i := 3) sc_sides_of.nd rfl (by first | exact .inl rfl | exact .inr rfl))) (fun _ _ _ _ _ => (ts_one (t_c (cEq hr) (q_mod (q_ixI hr (v_ 1) (v_ 3) (fun _ _ => rfl)) q_int) q_int))) (fun _ _ _ _ _ => (v_ 3)))) a_nil)))))))
theorem ok_sides_of {f : Addr} {fd : FuncData} (T : Tx K mg) (C_neighbours : CalP P w K mg base "neighbours" 1 ["web", "x"] F_neighbours) (F : FnD K "sides_of" s_sides_of f fd) (hm : mg "sides_of" = some (.ref f)) : CalP P w K mg base "sides_of" 2 ["web"] F_sides_of :=
  ⟨fn_okP F sc_sides_of fun cdv A outer s H E hr => b_sides_of T C_neighbours hr, hm, F.kp, F.bindsN (fun _ _ _ _ _ _ us hl => match us, hl with | [_], _ => rfl), runP_len⟩
abbrev s_sides : Stmt := top 70
abbrev N_sides : List Str := ["web", "one", "other"]
theorem sc_sides : FnScope N_sides ["web"] (defScope s_sides) := ⟨rfl, rfl, rfl, by decide +kernel, rfl, by decide +kernel, by decide +kernel⟩
def D_sides : DS :=
  (seqS (exS (callP F_need_web (consL (var 0) nilL)))
  (seqS (exS (callP F_need_good_tree (consL (var 0) nilL)))
  (seqS (unpS (.tp [1, 2]) (callP F_sides_of (consL (var 0) nilL)))
  (rtS (tupE (consL (blt tupD (consL (var 1) nilL)) (consL (blt tupD (consL (var 2) nilL)) nilL)))))))
def F_sides : FnP := runP 3 1 D_sides
theorem b_sides {cdv : Value} {A : Around} {outer : List Env} {s : Shared} {H : Hp} {E : XK} {f : Addr} (T : Tx K mg) (C_need_web : CalP P w K mg base "need_web" 5 ["value"] F_need_web) (C_need_good_tree : CalP P w K mg base "need_good_tree" 5 ["web"] F_need_good_tree) (C_sides_of : CalP P w K mg base "sides_of" 2 ["web"] F_sides_of) (hr : Room 5 (A.deeper (envOfC "sides" (defScope s_sides) s.heap.objs.size f cdv))) :
    QB (cxOf (L2N.CX P w) P w K mg base N_sides "sides" (defScope s_sides) f cdv A outer s H E) (WE0 E) (defBody s_sides) D_sides :=
  (b_cons (s_expr (q_p C_need_web hr (by omega) (L2N.takes_of rfl rfl rfl rfl) (a_cons (v_ 0) a_nil)))
  (b_cons (s_expr (q_p C_need_good_tree hr (by omega) (L2N.takes_of rfl rfl rfl rfl) (a_cons (v_ 0) a_nil)))
  (b_cons (s_unp (t := (.tp [1, 2])) (ps_asg (q_p C_sides_of hr (by omega) (L2N.takes_of rfl rfl rfl rfl) (a_cons (v_ 0) a_nil)) (pg_tup rfl (pgs_cons (pg_name (i := 1) sc_sides.nd rfl (by first | exact .inl rfl | exact .inr rfl)) (pgs_cons (pg_name (i := 2) sc_sides.nd rfl (by first | exact .inl rfl | exact .inr rfl)) pgs_nil)))))
  (b_one (s_ret (q_tup (a_cons (q_bt bTuple T.n_tuple (by decide +kernel) (a_cons (v_ 1) a_nil)) (a_cons (q_bt bTuple T.n_tuple (by decide +kernel) (a_cons (v_ 2) a_nil)) a_nil))))))))
theorem ok_sides {f : Addr} {fd : FuncData} (T : Tx K mg) (C_need_web : CalP P w K mg base "need_web" 5 ["value"] F_need_web) (C_need_good_tree : CalP P w K mg base "need_good_tree" 5 ["web"] F_need_good_tree) (C_sides_of : CalP P w K mg base "sides_of" 2 ["web"] F_sides_of) (F : FnD K "sides" s_sides f fd) (hm : mg "sides" = some (.ref f)) : CalP P w K mg base "sides" 6 ["web"] F_sides :=
  ⟨fn_okP F sc_sides fun cdv A outer s H E hr => b_sides T C_need_web C_need_good_tree C_sides_of hr, hm, F.kp, F.bindsN (fun _ _ _ _ _ _ us hl => match us, hl with | [_], _ => rfl), runP_len⟩
abbrev s_parted : Stmt := top 71
abbrev N_parted : List Str := ["web", "first", "table", "y", "many"]
theorem sc_parted : FnScope N_parted ["web"] (defScope s_parted) := ⟨rfl, rfl, rfl, by decide +kernel, rfl, by decide +kernel, by decide +kernel⟩
def D_parted : DS :=
  (seqS (asgS 1 (ixE (callP F_sides_of (consL (var 0) nilL)) (cst (.int 0))))
  (seqS (asgS 2 (ownE (szF nilL)))
  (seqS (forS (rng1 (consL (blt lenD (consL (var 0) nilL)) nilL)) (.nm 3) (exS (metE appM (var 2) (consL (blt tupD (consL (frzE (lcF [4] (seqI (ixE (var 0) (var 3))) (.nm 4) yes (ifE (asB (bin inD (var 3) (var 1))) (blt absD (consL (var 4) nilL)) (un negD (blt absD (consL (var 4) nilL)))))) nilL)) nilL))))
  (rtS (blt tupD (consL (var 2) nilL))))))
def F_parted : FnP := runP 5 1 D_parted
theorem b_parted {cdv : Value} {A : Around} {outer : List Env} {s : Shared} {H : Hp} {E : XK} {f : Addr} (T : Tx K mg) (C_sides_of : CalP P w K mg base "sides_of" 2 ["web"] F_sides_of) (hr : Room 2 (A.deeper (envOfC "parted" (defScope s_parted) s.heap.objs.size f cdv))) :
    QB (cxOf (L2N.CX P w) P w K mg base N_parted "parted" (defScope s_parted) f cdv A outer s H E) (WE0 E) (defBody s_parted) D_parted :=
  (b_cons (s_set (ps_set (i := 1) sc_parted.nd rfl (by first | exact .inl rfl | exact .inr rfl) (q_ix (q_p C_sides_of hr (by omega) (L2N.takes_of rfl rfl rfl rfl) (a_cons (v_ 0) a_nil)) q_int (fun _ _ => rfl))))
  (b_cons (s_set (ps_set (i := 2) sc_parted.nd rfl (by first | exact .inl rfl | exact .inr rfl) (q_own (f_lst a_nil))))
  (b_cons (s_for (passes_of rfl) rfl (i_rng1 (by rfl) T.n_range (a_cons (q_b bLen T.n_len (by decide +kernel) (a_cons (v_ 0) a_nil)) a_nil)) (pg_name (i := 3) sc_parted.nd rfl (by first | exact .inl rfl | exact .inr rfl)) (b_one (s_expr (q_met m_app (pe_bm PySem.F.plainAttrs_list PySem.F.slot_list_append PySem.F.type_list_append mt_append (v_ 2) (a_cons (q_bt bTuple T.n_tuple (by decide +kernel) (a_cons (q_frz (f_lc (own := [("many", 4)]) rfl sc_parted.nd (i_seq (q_ix (v_ 0) (v_ 3) (fun _ _ => rfl))) (blkOk_by (N := N_parted) (sc := defScope s_parted) (own := [("many", 4)]) (by decide +kernel)) (by decide) (fun _ _ _ _ _ => (pg_name (i := 4) sc_parted.nd rfl (by first | exact .inl rfl | exact .inr rfl))) (fun _ _ _ _ _ => ts_nil) (fun _ _ _ _ _ => (q_if (t_c (cIn hr) (v_ 3) (v_ 1)) (q_b bAbs T.n_abs (by decide +kernel) (a_cons (v_ 4) a_nil)) (q_neg (q_b bAbs T.n_abs (by decide +kernel) (a_cons (v_ 4) a_nil))))))) a_nil)) a_nil))))))
  (b_one (s_ret (q_bt bTuple T.n_tuple (by decide +kernel) (a_cons (v_ 2) a_nil)))))))
theorem ok_parted {f : Addr} {fd : FuncData} (T : Tx K mg) (C_sides_of : CalP P w K mg base "sides_of" 2 ["web"] F_sides_of) (F : FnD K "parted" s_parted f fd) (hm : mg "parted" = some (.ref f)) : CalP P w K mg base "parted" 3 ["web"] F_parted :=
  ⟨fn_okP F sc_parted fun cdv A outer s H E hr => b_parted T C_sides_of hr, hm, F.kp, F.bindsN (fun _ _ _ _ _ _ us hl => match us, hl with | [_], _ => rfl), runP_len⟩
abbrev s_name_of : Stmt := top 43
abbrev N_name_of : List Str := ["n", "x", "y"]
theorem sc_name_of : FnScope N_name_of ["n", "x"] (defScope s_name_of) := ⟨rfl, rfl, rfl, by decide +kernel, rfl, by decide +kernel, by decide +kernel⟩
def D_name_of : DS :=
  (rtS (tupE (consL (tupE (consL (blt tupD (consL (frzE (lcF [2] (rng1 (consL (var 0) nilL)) (.nm 2) yes (blt intD (consL (bin eqD (var 2) (var 1)) nilL)))) nilL)) (consL (cst (.int 1)) nilL))) nilL)))
def F_name_of : FnP := runP 3 2 D_name_of
theorem b_name_of {cdv : Value} {A : Around} {outer : List Env} {s : Shared} {H : Hp} {E : XK} {f : Addr} (T : Tx K mg)  (hr : Room 0 (A.deeper (envOfC "name_of" (defScope s_name_of) s.heap.objs.size f cdv))) :
    QB (cxOf (L2N.CX P w) P w K mg base N_name_of "name_of" (defScope s_name_of) f cdv A outer s H E) (WE0 E) (defBody s_name_of) D_name_of :=
  (b_one (s_ret (q_tup (a_cons (q_tup (a_cons (q_bt bTuple T.n_tuple (by decide +kernel) (a_cons (q_frz (f_lc (own := [("y", 2)]) rfl sc_name_of.nd (i_rng1 (by rfl) T.n_range (a_cons (v_ 0) a_nil)) (blkOk_by (N := N_name_of) (sc := defScope s_name_of) (own := [("y", 2)]) (by decide +kernel)) (by decide) (fun _ _ _ _ _ => (pg_name (i := 2) sc_name_of.nd rfl (by first | exact .inl rfl | exact .inr rfl))) (fun _ _ _ _ _ => ts_nil) (fun _ _ _ _ _ => (q_bt bInt T.n_int (by decide +kernel) (a_cons (q_c (cEq hr) (v_ 2) (v_ 1)) a_nil))))) a_nil)) (a_cons q_int a_nil))) a_nil))))
theorem ok_name_of {f : Addr} {fd : FuncData} (T : Tx K mg)  (F : FnD K "name_of" s_name_of f fd) (hm : mg "name_of" = some (.ref f)) : CalP P w K mg base "name_of" 1 ["n", "x"] F_name_of :=
  ⟨fn_okP F sc_name_of fun cdv A outer s H E hr => b_name_of T  hr, hm, F.kp, F.bindsN (fun _ _ _ _ _ _ us hl => match us, hl with | [_, _], _ => rfl), runP_len⟩
abbrev s_names_of : Stmt := top 57
abbrev N_names_of : List Str := ["n", "x"]
theorem sc_names_of : FnScope N_names_of ["n"] (defScope s_names_of) := ⟨rfl, rfl, rfl, by decide +kernel, rfl, by decide +kernel, by decide +kernel⟩
def D_names_of : DS :=
  (rtS (frzE (lcF [1] (rng1 (consL (var 0) nilL)) (.nm 1) yes (callP F_name_of (consL (var 0) (consL (var 1) nilL))))))
def F_names_of : FnP := runP 2 1 D_names_of
theorem b_names_of {cdv : Value} {A : Around} {outer : List Env} {s : Shared} {H : Hp} {E : XK} {f : Addr} (T : Tx K mg) (C_name_of : CalP P w K mg base "name_of" 1 ["n", "x"] F_name_of) (hr : Room 1 (A.deeper (envOfC "names_of" (defScope s_names_of) s.heap.objs.size f cdv))) :
    QB (cxOf (L2N.CX P w) P w K mg base N_names_of "names_of" (defScope s_names_of) f cdv A outer s H E) (WE0 E) (defBody s_names_of) D_names_of :=
  (b_one (s_ret (q_frz (f_lc (own := [("x", 1)]) rfl sc_names_of.nd (i_rng1 (by rfl) T.n_range (a_cons (v_ 0) a_nil)) (blkOk_by (N := N_names_of) (sc := defScope s_names_of) (own := [("x", 1)]) (by decide +kernel)) (by decide) (fun _ _ _ _ _ => (pg_name (i := 1) sc_names_of.nd rfl (by first | exact .inl rfl | exact .inr rfl))) (fun _ _ _ _ _ => ts_nil) (fun _ _ _ _ _ => (q_p C_name_of hr (by omega) takesN (a_cons (v_ 0) (a_cons (v_ 1) a_nil))))))))
theorem ok_names_of {f : Addr} {fd : FuncData} (T : Tx K mg) (C_name_of : CalP P w K mg base "name_of" 1 ["n", "x"] F_name_of) (F : FnD K "names_of" s_names_of f fd) (hm : mg "names_of" = some (.ref f)) : CalP P w K mg base "names_of" 2 ["n"] F_names_of :=
  ⟨fn_okP F sc_names_of fun cdv A outer s H E hr => b_names_of T C_name_of hr, hm, F.kp, F.bindsN (fun _ _ _ _ _ _ us hl => match us, hl with | [_], _ => rfl), runP_len⟩
abbrev s_product_of : Stmt := top 36
abbrev N_product_of : List Str := ["one", "other", "left", "right"]
theorem sc_product_of : FnScope N_product_of ["one", "other"] (defScope s_product_of) := ⟨rfl, rfl, rfl, by decide +kernel, rfl, by decide +kernel, by decide +kernel⟩
def D_product_of : DS :=
  (rtS (blt tupD (consL (frzE (lcF [2, 3] (zipJ (consL (var 0) (consL (var 1) nilL))) (.tp [2, 3]) yes (bin addD (var 2) (var 3)))) nilL)))
def F_product_of : FnP := runP 4 2 D_product_of
theorem b_product_of {cdv : Value} {A : Around} {outer : List Env} {s : Shared} {H : Hp} {E : XK} {f : Addr} (T : Tx K mg)  (hr : Room 0 (A.deeper (envOfC "product_of" (defScope s_product_of) s.heap.objs.size f cdv))) :
    QB (cxOf (L2N.CX P w) P w K mg base N_product_of "product_of" (defScope s_product_of) f cdv A outer s H E) (WE0 E) (defBody s_product_of) D_product_of :=
  (b_one (s_ret (q_bt bTuple T.n_tuple (by decide +kernel) (a_cons (q_frz (f_lc (own := [("left", 2), ("right", 3)]) rfl sc_product_of.nd (i_zipJ (by rfl) T.n_zip (a_cons (v_ 0) (a_cons (v_ 1) a_nil))) (blkOk_by (N := N_product_of) (sc := defScope s_product_of) (own := [("left", 2), ("right", 3)]) (by decide +kernel)) (by decide) (fun _ _ _ _ _ => (pg_tup rfl (pgs_cons (pg_name (i := 2) sc_product_of.nd rfl (by first | exact .inl rfl | exact .inr rfl)) (pgs_cons (pg_name (i := 3) sc_product_of.nd rfl (by first | exact .inl rfl | exact .inr rfl)) pgs_nil)))) (fun _ _ _ _ _ => ts_nil) (fun _ _ _ _ _ => (q_add (v_ 2) (v_ 3))))) a_nil))))
theorem ok_product_of {f : Addr} {fd : FuncData} (T : Tx K mg)  (F : FnD K "product_of" s_product_of f fd) (hm : mg "product_of" = some (.ref f)) : CalP P w K mg base "product_of" 1 ["one", "other"] F_product_of :=
  ⟨fn_okP F sc_product_of fun cdv A outer s H E hr => b_product_of T  hr, hm, F.kp, F.bindsN (fun _ _ _ _ _ _ us hl => match us, hl with | [_, _], _ => rfl), runP_len⟩
abbrev s_moved : Stmt := top 40
abbrev N_moved : List Str := ["one", "by", "powers", "many"]
theorem sc_moved : FnScope N_moved ["one", "by"] (defScope s_moved) := ⟨rfl, rfl, rfl, by decide +kernel, rfl, by decide +kernel, by decide +kernel⟩
def D_moved : DE :=
  (dcE [2, 3] (seqI (var 0)) (.tp [2, 3]) (callP F_product_of (consL (var 2) (consL (var 1) nilL))) (var 3))
def F_moved : FnN := runN 4 2 D_moved
theorem ok_moved {f : Addr} {fd : FuncData} (T : Tx K mg) (C_product_of : CalP P w K mg base "product_of" 1 ["one", "other"] F_product_of) (F : FnD K "moved" s_moved f fd) (hm : mg "moved" = some (.ref f)) : CalN P w K mg base "moved" 2 ["one", "by"] F_moved :=
  ⟨fn_okN F sc_moved rfl fun cdv A outer s H E hr => ((q_dc (own := [("powers", 2), ("many", 3)]) rfl sc_moved.nd (i_seq (v_ 0)) (blkOk_by (N := N_moved) (sc := defScope s_moved) (own := [("powers", 2), ("many", 3)]) (by decide +kernel)) (by decide) (fun _ _ _ _ _ => (pg_tup rfl (pgs_cons (pg_name (i := 2) sc_moved.nd rfl (by first | exact .inl rfl | exact .inr rfl)) (pgs_cons (pg_name (i := 3) sc_moved.nd rfl (by first | exact .inl rfl | exact .inr rfl)) pgs_nil)))) (fun _ _ _ _ _ => (q_p C_product_of hr (by omega) takesN (a_cons (v_ 2) (a_cons (v_ 1) a_nil)))) (fun _ _ _ _ _ => (v_ 3)) (fun _ _ _ _ _ => room8 hr)) : QE (cxOf (L2N.CX P w) P w K mg base N_moved "moved" (defScope s_moved) f cdv A outer s H E) (WE0 E) _ D_moved), hm, F.kp, F.bindsN (fun _ _ _ _ _ _ us hl => match us, hl with | [_, _], _ => rfl), fun _ _ h => runN_len h⟩
abbrev s_sum_of : Stmt := top 34
abbrev N_sum_of : List Str := ["counts", "found", "powers", "many", "power", "pair"]
theorem sc_sum_of : FnScope N_sum_of ["counts"] (defScope s_sum_of) := ⟨rfl, rfl, rfl, by decide +kernel, rfl, by decide +kernel, by decide +kernel⟩
def D_sum_of : DS :=
  (seqS (asgS 1 (blt tupD (consL (blt sortD (consL (frzE (lcF [5] (itemsI (var 0)) (.nm 5) (asB (bin neD (ixE (var 5) (cst (.int 1))) (cst (.int 0)))) (var 5))) nilL)) nilL)))
  (seqS (ifS (asB (bin gtI (blt lenD (consL (var 1) nilL)) (cst (.int 500)))) badS nilS)
  (seqS (ifS (asB (blt anyBD (consL (frzE (lc2F [2, 3, 4] [4] (seqI (var 1)) (.tp [2, 3]) yes (seqI (var 2)) (.nm 4) yes (bin gtI (blt absD (consL (var 4) nilL)) (cst (.int 1000))))) nilL))) (raS "TooGreat") nilS)
  (rtS (var 1)))))
def F_sum_of : FnP := runP 6 1 D_sum_of
theorem b_sum_of {cdv : Value} {A : Around} {outer : List Env} {s : Shared} {H : Hp} {E : XK} {f : Addr} (T : Tx K mg)  (hr : Room 0 (A.deeper (envOfC "sum_of" (defScope s_sum_of) s.heap.objs.size f cdv))) :
    QB (cxOf (L2N.CX P w) P w K mg base N_sum_of "sum_of" (defScope s_sum_of) f cdv A outer s H E) (WE0 E) (defBody s_sum_of) D_sum_of :=
  (b_cons (s_set (ps_set (i := 1) sc_sum_of.nd rfl (by first | exact .inl rfl | exact .inr rfl) (q_bt bTuple T.n_tuple (by decide +kernel) (a_cons (q_b (bSorted hr rfl) T.n_sorted (by decide +kernel) (a_cons (q_frz (f_lc (own := [("pair", 5)]) rfl sc_sum_of.nd (i_itemsN (v_ 0)) (blkOk_by (N := N_sum_of) (sc := defScope s_sum_of) (own := [("pair", 5)]) (by decide +kernel)) (by decide) (fun _ _ _ _ _ => (pg_name (i := 5) sc_sum_of.nd rfl (by first | exact .inl rfl | exact .inr rfl))) (fun _ _ _ _ _ => (ts_one (t_c (cNe hr) (q_ix (v_ 5) q_int (fun _ _ => rfl)) q_int))) (fun _ _ _ _ _ => (v_ 5)))) a_nil)) a_nil))))
  (b_cons (s_if (t_c (cGt) (q_b bLen T.n_len (by decide +kernel) (a_cons (v_ 1) a_nil)) (c_int T.i_MOST_PAIRS)) (b_one s_bad) b_nil)
  (b_cons (s_if (t_val (q_b (bAny rfl) T.n_any (by decide +kernel) (a_cons (q_frz (f_lc2 (own := [("powers", 2), ("many", 3), ("power", 4)]) (vs1 := [4]) rfl sc_sum_of.nd (i_seq (v_ 1)) (blkOk_by (N := N_sum_of) (sc := defScope s_sum_of) (own := [("powers", 2), ("many", 3), ("power", 4)]) (by decide +kernel)) (by decide) (by decide) (by decide) (fun _ _ _ _ _ => (pg_tup rfl (pgs_cons (pg_name (i := 2) sc_sum_of.nd rfl (by first | exact .inl rfl | exact .inr rfl)) (pgs_cons (pg_name (i := 3) sc_sum_of.nd rfl (by first | exact .inl rfl | exact .inr rfl)) pgs_nil)))) (fun _ _ _ _ _ => ts_nil) (fun _ _ _ _ _ => (i_seq (v_ 2))) (fun _ _ _ _ _ => (pg_name (i := 4) sc_sum_of.nd rfl (by first | exact .inl rfl | exact .inr rfl))) (fun _ _ _ _ _ => ts_nil) (fun _ _ _ _ _ => (q_c (cGt) (q_b bAbs T.n_abs (by decide +kernel) (a_cons (v_ 4) a_nil)) (c_int T.i_MOST_EXPONENT))))) a_nil))) (b_one (s_ra rfl (L2N.takes_of rfl rfl rfl rfl) T.e_TooGreat)) b_nil)
  (b_one (s_ret (v_ 1))))))
theorem ok_sum_of {f : Addr} {fd : FuncData} (T : Tx K mg)  (F : FnD K "sum_of" s_sum_of f fd) (hm : mg "sum_of" = some (.ref f)) : CalP P w K mg base "sum_of" 1 ["counts"] F_sum_of :=
  ⟨fn_okP F sc_sum_of fun cdv A outer s H E hr => b_sum_of T  hr, hm, F.kp, F.bindsN (fun _ _ _ _ _ _ us hl => match us, hl with | [_], _ => rfl), runP_len⟩
abbrev s_lowest : Stmt := top 38
abbrev N_lowest : List Str := ["one", "x", "pair"]
theorem sc_lowest : FnScope N_lowest ["one"] (defScope s_lowest) := ⟨rfl, rfl, rfl, by decide +kernel, rfl, by decide +kernel, by decide +kernel⟩
def D_lowest : DS :=
  (rtS (blt tupD (consL (frzE (lcF [1] (rng1 (consL (blt lenD (consL (ixE (ixE (var 0) (cst (.int 0))) (cst (.int 0))) nilL)) nilL)) (.nm 1) yes (blt minJD (consL (frzE (lcF [2] (seqI (var 0)) (.nm 2) yes (ixE (ixE (var 2) (cst (.int 0))) (var 1)))) nilL)))) nilL)))
def F_lowest : FnP := runP 3 1 D_lowest
theorem b_lowest {cdv : Value} {A : Around} {outer : List Env} {s : Shared} {H : Hp} {E : XK} {f : Addr} (T : Tx K mg)  (hr : Room 0 (A.deeper (envOfC "lowest" (defScope s_lowest) s.heap.objs.size f cdv))) :
    QB (cxOf (L2N.CX P w) P w K mg base N_lowest "lowest" (defScope s_lowest) f cdv A outer s H E) (WE0 E) (defBody s_lowest) D_lowest :=
  (b_one (s_ret (q_bt bTuple T.n_tuple (by decide +kernel) (a_cons (q_frz (f_lc (own := [("x", 1)]) rfl sc_lowest.nd (i_rng1 (by rfl) T.n_range (a_cons (q_b bLen T.n_len (by decide +kernel) (a_cons (q_ix (q_ix (v_ 0) q_int (fun _ _ => rfl)) q_int (fun _ _ => rfl)) a_nil)) a_nil)) (blkOk_by (N := N_lowest) (sc := defScope s_lowest) (own := [("x", 1)]) (by decide +kernel)) (by decide) (fun _ _ _ _ _ => (pg_name (i := 1) sc_lowest.nd rfl (by first | exact .inl rfl | exact .inr rfl))) (fun _ _ _ _ _ => ts_nil) (fun _ _ _ _ _ => (q_b (bMinJ hr rfl) T.n_min (by decide +kernel) (a_cons (q_frz (f_lc (own := [("pair", 2)]) rfl sc_lowest.nd (i_seq (v_ 0)) (blkOk_in (N := N_lowest) (sc0 := defScope s_lowest) (own := [("pair", 2)]) (by decide +kernel)) (by decide) (fun _ _ _ _ _ => (pg_name (i := 2) sc_lowest.nd rfl (by first | exact .inl rfl | exact .inr rfl))) (fun _ _ _ _ _ => ts_nil) (fun _ _ _ _ _ => (q_ix (q_ix (v_ 2) q_int (fun _ _ => rfl)) (v_ 1) (fun _ _ => rfl))))) a_nil))))) a_nil))))
theorem ok_lowest {f : Addr} {fd : FuncData} (T : Tx K mg)  (F : FnD K "lowest" s_lowest f fd) (hm : mg "lowest" = some (.ref f)) : CalP P w K mg base "lowest" 1 ["one"] F_lowest :=
  ⟨fn_okP F sc_lowest fun cdv A outer s H E hr => b_lowest T  hr, hm, F.kp, F.bindsN (fun _ _ _ _ _ _ us hl => match us, hl with | [_], _ => rfl), runP_len⟩
abbrev s_greatest : Stmt := top 39
abbrev N_greatest : List Str := ["counts", "some", "x", "powers"]
theorem sc_greatest : FnScope N_greatest ["counts"] (defScope s_greatest) := ⟨rfl, rfl, rfl, by decide +kernel, rfl, by decide +kernel, by decide +kernel⟩
def D_greatest : DS :=
  (seqS (asgS 1 (blt listND (consL (var 0) nilL)))
  (rtS (frzE (lcF [2] (rng1 (consL (blt lenD (consL (ixE (var 1) (cst (.int 0))) nilL)) nilL)) (.nm 2) yes (blt maxLD (consL (frzE (lcF [3] (seqI (var 1)) (.nm 3) yes (ixE (var 3) (var 2)))) nilL))))))
def F_greatest : FnP := runP 4 1 D_greatest
theorem b_greatest {cdv : Value} {A : Around} {outer : List Env} {s : Shared} {H : Hp} {E : XK} {f : Addr} (T : Tx K mg)  (hr : Room 0 (A.deeper (envOfC "greatest" (defScope s_greatest) s.heap.objs.size f cdv))) :
    QB (cxOf (L2N.CX P w) P w K mg base N_greatest "greatest" (defScope s_greatest) f cdv A outer s H E) (WE0 E) (defBody s_greatest) D_greatest :=
  (b_cons (s_set (ps_set (i := 1) sc_greatest.nd rfl (by first | exact .inl rfl | exact .inr rfl) (q_bt (bListN rfl) T.n_list (by decide +kernel) (a_cons (v_ 0) a_nil))))
  (b_one (s_ret (q_frz (f_lc (own := [("x", 2)]) rfl sc_greatest.nd (i_rng1 (by rfl) T.n_range (a_cons (q_b bLen T.n_len (by decide +kernel) (a_cons (q_ix (v_ 1) q_int (fun _ _ => rfl)) a_nil)) a_nil)) (blkOk_by (N := N_greatest) (sc := defScope s_greatest) (own := [("x", 2)]) (by decide +kernel)) (by decide) (fun _ _ _ _ _ => (pg_name (i := 2) sc_greatest.nd rfl (by first | exact .inl rfl | exact .inr rfl))) (fun _ _ _ _ _ => ts_nil) (fun _ _ _ _ _ => (q_b (bMaxL rfl) T.n_max (by decide +kernel) (a_cons (q_frz (f_lc (own := [("powers", 3)]) rfl sc_greatest.nd (i_seq (v_ 1)) (blkOk_in (N := N_greatest) (sc0 := defScope s_greatest) (own := [("powers", 3)]) (by decide +kernel)) (by decide) (fun _ _ _ _ _ => (pg_name (i := 3) sc_greatest.nd rfl (by first | exact .inl rfl | exact .inr rfl))) (fun _ _ _ _ _ => ts_nil) (fun _ _ _ _ _ => (q_ix (v_ 3) (v_ 2) (fun _ _ => rfl))))) a_nil))))))))
theorem ok_greatest {f : Addr} {fd : FuncData} (T : Tx K mg)  (F : FnD K "greatest" s_greatest f fd) (hm : mg "greatest" = some (.ref f)) : CalP P w K mg base "greatest" 1 ["counts"] F_greatest :=
  ⟨fn_okP F sc_greatest fun cdv A outer s H E hr => b_greatest T  hr, hm, F.kp, F.bindsN (fun _ _ _ _ _ _ us hl => match us, hl with | [_], _ => rfl), runP_len⟩
abbrev s_divided : Stmt := top 41
abbrev N_divided : List Str := ["one", "other", "low", "base", "rest", "parts", "head", "many", "room", "found", "shift", "top", "powers", "share", "right", "more", "left", "place", "power", "most"]
theorem sc_divided : FnScope N_divided ["one", "other"] (defScope s_divided) := ⟨rfl, rfl, rfl, by decide +kernel, rfl, by decide +kernel, by decide +kernel⟩
def D_divided : DS :=
  (seqS (ifS (asB (bin eqD (var 0) (tupE nilL))) (rtS (tupE nilL)) nilS)
  (seqS (parS [2, 3] (consL (callP F_lowest (consL (var 0) nilL)) (consL (callP F_lowest (consL (var 1) nilL)) nilL)))
  (seqS (asgS 4 (callN F_moved (consL (var 0) (consL (blt tupD (consL (frzE (lcF [18] (seqI (var 2)) (.nm 18) yes (un negD (var 18)))) nilL)) nilL))))
  (seqS (asgS 5 (srtIt (callN F_moved (consL (var 1) (consL (blt tupD (consL (frzE (lcF [18] (seqI (var 3)) (.nm 18) yes (un negD (var 18)))) nilL)) nilL)))))
  (seqS (unpS (.tp [6, 7]) (ixE (var 5) (un negD (cst (.int 1)))))
  (seqS (asgS 8 (frzE (lcF [16, 14] (zipJ (consL (callD F_greatest (consL (var 4) nilL)) (consL (callD F_greatest (consL (dictN (var 5)) nilL)) nilL))) (.tp [16, 14]) yes (bin subD (var 16) (var 14)))))
  (seqS (asgS 9 newN)
  (seqS (whS fuel (asB (neN (var 4))) (seqS (asgS 11 (blt maxND (consL (var 4) nilL)))
  (seqS (asgS 12 (blt tupD (consL (frzE (lcF [16, 14] (zipJ (consL (var 11) (consL (var 6) nilL))) (.tp [16, 14]) yes (bin subD (var 16) (var 14)))) nilL)))
  (seqS (ifS (orB (asB (bin ltI (blt minJD (consL (var 12) nilL)) (cst (.int 0)))) (orB (asB (bin neD (bin modD (ixN (var 4) (var 11)) (var 7)) (cst (.int 0)))) (asB (blt anyBD (consL (frzE (lcF [18, 19] (zipJ (consL (var 12) (consL (var 8) nilL))) (.tp [18, 19]) yes (bin gtI (var 18) (var 19)))) nilL))))) (raS "NotEven") nilS)
  (seqS (asgS 13 (bin divD (ixN (var 4) (var 11)) (var 7)))
  (seqS (putN (var 13) (var 9) (var 12))
  (forS (seqI (var 5)) (.tp [14, 15]) (seqS (asgS 17 (callP F_product_of (consL (var 12) (consL (var 14) nilL))))
  (seqS (putN (bin subD (getN (var 4) (consL (var 17) (consL (cst (.int 0)) nilL))) (bin mulD (var 13) (var 15))) (var 4) (var 17))
  (ifS (asB (bin eqD (ixN (var 4) (var 17)) (cst (.int 0)))) (exS (popN (var 4) (consL (var 17) nilL))) nilS))))))))))
  (seqS (asgS 10 (blt tupD (consL (frzE (lcF [16, 14] (zipJ (consL (var 2) (consL (var 3) nilL))) (.tp [16, 14]) yes (bin subD (var 16) (var 14)))) nilL)))
  (rtS (callD F_sum_of (consL (callN F_moved (consL (tupIt (var 9)) (consL (var 10) nilL))) nilL))))))))))))
def F_divided : FnP := runP 20 2 D_divided
theorem b_divided {cdv : Value} {A : Around} {outer : List Env} {s : Shared} {H : Hp} {E : XK} {f : Addr} (T : Tx K mg) (C_moved : CalN P w K mg base "moved" 2 ["one", "by"] F_moved) (C_sum_of : CalP P w K mg base "sum_of" 1 ["counts"] F_sum_of) (C_lowest : CalP P w K mg base "lowest" 1 ["one"] F_lowest) (C_product_of : CalP P w K mg base "product_of" 1 ["one", "other"] F_product_of) (C_greatest : CalP P w K mg base "greatest" 1 ["counts"] F_greatest) (hr : Room 2 (A.deeper (envOfC "divided" (defScope s_divided) s.heap.objs.size f cdv))) :
    QB (cxOf (L2N.CX P w) P w K mg base N_divided "divided" (defScope s_divided) f cdv A outer s H E) (WE0 E) (defBody s_divided) D_divided :=
  (b_cons (s_if (t_c (cEq hr) (v_ 0) (q_tup a_nil)) (b_one (s_ret (q_tup a_nil))) b_nil)
  (b_cons (s_par (ps_par (i := 2) (j := 3) rfl sc_divided.nd rfl rfl (by decide) rfl rfl (a_cons (q_p C_lowest hr (by omega) (L2N.takes_of rfl rfl rfl rfl) (a_cons (v_ 0) a_nil)) (a_cons (q_p C_lowest hr (by omega) (L2N.takes_of rfl rfl rfl rfl) (a_cons (v_ 1) a_nil)) a_nil)) (by rfl)))
  (b_cons (s_set (ps_set (i := 4) sc_divided.nd rfl (by first | exact .inl rfl | exact .inr rfl) (q_n C_moved hr (by omega) (L2N.takes_of rfl rfl rfl rfl) (a_cons (v_ 0) (a_cons (q_bt bTuple T.n_tuple (by decide +kernel) (a_cons (q_frz (f_lc (own := [("power", 18)]) rfl sc_divided.nd (i_seq (v_ 2)) (blkOk_by (N := N_divided) (sc := defScope s_divided) (own := [("power", 18)]) (by decide +kernel)) (by decide) (fun _ _ _ _ _ => (pg_name (i := 18) sc_divided.nd rfl (by first | exact .inl rfl | exact .inr rfl))) (fun _ _ _ _ _ => ts_nil) (fun _ _ _ _ _ => (q_neg (v_ 18))))) a_nil)) a_nil)))))
  (b_cons (s_set (ps_set (i := 5) sc_divided.nd rfl (by first | exact .inl rfl | exact .inr rfl) (q_srtItems hr rfl T.n_sorted (q_n C_moved hr (by omega) (L2N.takes_of rfl rfl rfl rfl) (a_cons (v_ 1) (a_cons (q_bt bTuple T.n_tuple (by decide +kernel) (a_cons (q_frz (f_lc (own := [("power", 18)]) rfl sc_divided.nd (i_seq (v_ 3)) (blkOk_by (N := N_divided) (sc := defScope s_divided) (own := [("power", 18)]) (by decide +kernel)) (by decide) (fun _ _ _ _ _ => (pg_name (i := 18) sc_divided.nd rfl (by first | exact .inl rfl | exact .inr rfl))) (fun _ _ _ _ _ => ts_nil) (fun _ _ _ _ _ => (q_neg (v_ 18))))) a_nil)) a_nil))))))
  (b_cons (s_unp (t := (.tp [6, 7])) (ps_asg (q_ix (v_ 5) (q_neg q_int) (fun _ _ => rfl)) (pg_tup rfl (pgs_cons (pg_name (i := 6) sc_divided.nd rfl (by first | exact .inl rfl | exact .inr rfl)) (pgs_cons (pg_name (i := 7) sc_divided.nd rfl (by first | exact .inl rfl | exact .inr rfl)) pgs_nil)))))
  (b_cons (s_setLc Keeps.frz (own := [("left", 16), ("right", 14)]) rfl sc_divided.nd rfl rfl (sw_true rfl rfl rfl (by decide +kernel)) (i_zipJ (by rfl) T.n_zip (a_cons (q_dl C_greatest hr (by omega) (L2N.takes_of rfl rfl rfl rfl) (a_cons (v_ 4) a_nil)) (a_cons (q_dl C_greatest hr (by omega) (L2N.takes_of rfl rfl rfl rfl) (a_cons (q_dict hr rfl T.n_dict (v_ 5)) a_nil)) a_nil))) (blkOk_by (N := N_divided) (sc := defScope s_divided) (own := [("left", 16), ("right", 14)]) (by decide +kernel)) (by decide) (fun _ _ _ _ _ => (pg_tup rfl (pgs_cons (pg_name (i := 16) sc_divided.nd rfl (by first | exact .inl rfl | exact .inr rfl)) (pgs_cons (pg_name (i := 14) sc_divided.nd rfl (by first | exact .inl rfl | exact .inr rfl)) pgs_nil)))) (fun _ _ _ _ _ => ts_nil) (fun _ _ _ _ _ => (q_sub (v_ 16) (v_ 14))))
  (b_cons (s_set (ps_set (i := 9) sc_divided.nd rfl (by first | exact .inl rfl | exact .inr rfl) q_newN))
  (b_cons (s_while (n := fuel) (passes_of rfl) (t_neN hr (v_ 4)) (b_cons (s_set (ps_set (i := 11) sc_divided.nd rfl (by first | exact .inl rfl | exact .inr rfl) (q_b (bMaxN rfl hr) T.n_max (by decide +kernel) (a_cons (v_ 4) a_nil))))
  (b_cons (s_set (ps_set (i := 12) sc_divided.nd rfl (by first | exact .inl rfl | exact .inr rfl) (q_bt bTuple T.n_tuple (by decide +kernel) (a_cons (q_frz (f_lc (own := [("left", 16), ("right", 14)]) rfl sc_divided.nd (i_zipJ (by rfl) T.n_zip (a_cons (v_ 11) (a_cons (v_ 6) a_nil))) (blkOk_by (N := N_divided) (sc := defScope s_divided) (own := [("left", 16), ("right", 14)]) (by decide +kernel)) (by decide) (fun _ _ _ _ _ => (pg_tup rfl (pgs_cons (pg_name (i := 16) sc_divided.nd rfl (by first | exact .inl rfl | exact .inr rfl)) (pgs_cons (pg_name (i := 14) sc_divided.nd rfl (by first | exact .inl rfl | exact .inr rfl)) pgs_nil)))) (fun _ _ _ _ _ => ts_nil) (fun _ _ _ _ _ => (q_sub (v_ 16) (v_ 14))))) a_nil))))
  (b_cons (s_if (t_bool (w_or (t_c (cLt) (q_b (bMinJ hr rfl) T.n_min (by decide +kernel) (a_cons (v_ 12) a_nil)) q_int) (w_or (t_c (cNe hr) (q_mod (q_ixN hr (v_ 4) (v_ 11) (fun _ _ => rfl)) (v_ 7)) q_int) (w_or1 (t_val (q_b (bAny rfl) T.n_any (by decide +kernel) (a_cons (q_frz (f_lc (own := [("power", 18), ("most", 19)]) rfl sc_divided.nd (i_zipJ (by rfl) T.n_zip (a_cons (v_ 12) (a_cons (v_ 8) a_nil))) (blkOk_by (N := N_divided) (sc := defScope s_divided) (own := [("power", 18), ("most", 19)]) (by decide +kernel)) (by decide) (fun _ _ _ _ _ => (pg_tup rfl (pgs_cons (pg_name (i := 18) sc_divided.nd rfl (by first | exact .inl rfl | exact .inr rfl)) (pgs_cons (pg_name (i := 19) sc_divided.nd rfl (by first | exact .inl rfl | exact .inr rfl)) pgs_nil)))) (fun _ _ _ _ _ => ts_nil) (fun _ _ _ _ _ => (q_c (cGt) (v_ 18) (v_ 19))))) a_nil))))))) (b_one (s_ra rfl (L2N.takes_of rfl rfl rfl rfl) T.e_NotEven)) b_nil)
  (b_cons (s_set (ps_set (i := 13) sc_divided.nd rfl (by first | exact .inl rfl | exact .inr rfl) (q_div (q_ixN hr (v_ 4) (v_ 11) (fun _ _ => rfl)) (v_ 7))))
  (b_cons (s_putN (ps_asg (v_ 13) (pg_sub (v_ 9) (v_ 12) (set_dct (room9 hr)))))
  (b_one (s_for (passes_of rfl) rfl (i_seq (v_ 5)) (pg_tup rfl (pgs_cons (pg_name (i := 14) sc_divided.nd rfl (by first | exact .inl rfl | exact .inr rfl)) (pgs_cons (pg_name (i := 15) sc_divided.nd rfl (by first | exact .inl rfl | exact .inr rfl)) pgs_nil))) (b_cons (s_set (ps_set (i := 17) sc_divided.nd rfl (by first | exact .inl rfl | exact .inr rfl) (q_p C_product_of hr (by omega) (L2N.takes_of rfl rfl rfl rfl) (a_cons (v_ 12) (a_cons (v_ 14) a_nil)))))
  (b_cons (s_putN (ps_asg (q_sub (q_getN hr (v_ 4) (a_cons (v_ 17) (a_cons q_int a_nil))) (q_mul (v_ 13) (v_ 15))) (pg_sub (v_ 4) (v_ 17) (set_dct (room9 hr)))))
  (b_one (s_if (t_c (cEq hr) (q_ixN hr (v_ 4) (v_ 17) (fun _ _ => rfl)) q_int) (b_one (s_expr (q_popN hr (v_ 4) (a_cons (v_ 17) a_nil)))) b_nil))))))))))))
  (b_cons (s_set (ps_set (i := 10) sc_divided.nd rfl (by first | exact .inl rfl | exact .inr rfl) (q_bt bTuple T.n_tuple (by decide +kernel) (a_cons (q_frz (f_lc (own := [("left", 16), ("right", 14)]) rfl sc_divided.nd (i_zipJ (by rfl) T.n_zip (a_cons (v_ 2) (a_cons (v_ 3) a_nil))) (blkOk_by (N := N_divided) (sc := defScope s_divided) (own := [("left", 16), ("right", 14)]) (by decide +kernel)) (by decide) (fun _ _ _ _ _ => (pg_tup rfl (pgs_cons (pg_name (i := 16) sc_divided.nd rfl (by first | exact .inl rfl | exact .inr rfl)) (pgs_cons (pg_name (i := 14) sc_divided.nd rfl (by first | exact .inl rfl | exact .inr rfl)) pgs_nil)))) (fun _ _ _ _ _ => ts_nil) (fun _ _ _ _ _ => (q_sub (v_ 16) (v_ 14))))) a_nil))))
  (b_one (s_ret (q_dl C_sum_of hr (by omega) (L2N.takes_of rfl rfl rfl rfl) (a_cons (q_n C_moved hr (by omega) (L2N.takes_of rfl rfl rfl rfl) (a_cons (q_tupItems rfl T.n_tuple (v_ 9)) (a_cons (v_ 10) a_nil))) a_nil)))))))))))))
theorem ok_divided {f : Addr} {fd : FuncData} (T : Tx K mg) (C_moved : CalN P w K mg base "moved" 2 ["one", "by"] F_moved) (C_sum_of : CalP P w K mg base "sum_of" 1 ["counts"] F_sum_of) (C_lowest : CalP P w K mg base "lowest" 1 ["one"] F_lowest) (C_product_of : CalP P w K mg base "product_of" 1 ["one", "other"] F_product_of) (C_greatest : CalP P w K mg base "greatest" 1 ["counts"] F_greatest) (F : FnD K "divided" s_divided f fd) (hm : mg "divided" = some (.ref f)) : CalP P w K mg base "divided" 3 ["one", "other"] F_divided :=
  ⟨fn_okP F sc_divided fun cdv A outer s H E hr => b_divided T C_moved C_sum_of C_lowest C_product_of C_greatest hr, hm, F.kp, F.bindsN (fun _ _ _ _ _ _ us hl => match us, hl with | [_, _], _ => rfl), runP_len⟩
abbrev s_multiplied : Stmt := top 37
abbrev N_multiplied : List Str := ["one", "other", "counts", "left", "many", "right", "more", "powers"]
theorem sc_multiplied : FnScope N_multiplied ["one", "other"] (defScope s_multiplied) := ⟨rfl, rfl, rfl, by decide +kernel, rfl, by decide +kernel, by decide +kernel⟩
def D_multiplied : DS :=
  (seqS (asgS 2 newN)
  (seqS (forS (seqI (var 0)) (.tp [3, 4]) (forS (seqI (var 1)) (.tp [5, 6]) (seqS (asgS 7 (callP F_product_of (consL (var 3) (consL (var 5) nilL))))
  (putN (bin addD (getN (var 2) (consL (var 7) (consL (cst (.int 0)) nilL))) (bin mulD (var 4) (var 6))) (var 2) (var 7)))))
  (rtS (callD F_sum_of (consL (var 2) nilL)))))
def F_multiplied : FnP := runP 8 2 D_multiplied
theorem b_multiplied {cdv : Value} {A : Around} {outer : List Env} {s : Shared} {H : Hp} {E : XK} {f : Addr} (T : Tx K mg) (C_sum_of : CalP P w K mg base "sum_of" 1 ["counts"] F_sum_of) (C_product_of : CalP P w K mg base "product_of" 1 ["one", "other"] F_product_of) (hr : Room 1 (A.deeper (envOfC "multiplied" (defScope s_multiplied) s.heap.objs.size f cdv))) :
    QB (cxOf (L2N.CX P w) P w K mg base N_multiplied "multiplied" (defScope s_multiplied) f cdv A outer s H E) (WE0 E) (defBody s_multiplied) D_multiplied :=
  (b_cons (s_set (ps_set (i := 2) sc_multiplied.nd rfl (by first | exact .inl rfl | exact .inr rfl) q_newN))
  (b_cons (s_for (passes_of rfl) rfl (i_seq (v_ 0)) (pg_tup rfl (pgs_cons (pg_name (i := 3) sc_multiplied.nd rfl (by first | exact .inl rfl | exact .inr rfl)) (pgs_cons (pg_name (i := 4) sc_multiplied.nd rfl (by first | exact .inl rfl | exact .inr rfl)) pgs_nil))) (b_one (s_for (passes_of rfl) rfl (i_seq (v_ 1)) (pg_tup rfl (pgs_cons (pg_name (i := 5) sc_multiplied.nd rfl (by first | exact .inl rfl | exact .inr rfl)) (pgs_cons (pg_name (i := 6) sc_multiplied.nd rfl (by first | exact .inl rfl | exact .inr rfl)) pgs_nil))) (b_cons (s_set (ps_set (i := 7) sc_multiplied.nd rfl (by first | exact .inl rfl | exact .inr rfl) (q_p C_product_of hr (by omega) (L2N.takes_of rfl rfl rfl rfl) (a_cons (v_ 3) (a_cons (v_ 5) a_nil)))))
  (b_one (s_putN (ps_asg (q_add (q_getN hr (v_ 2) (a_cons (v_ 7) (a_cons q_int a_nil))) (q_mul (v_ 4) (v_ 6))) (pg_sub (v_ 2) (v_ 7) (set_dct (room9 hr))))))))))
  (b_one (s_ret (q_dl C_sum_of hr (by omega) (L2N.takes_of rfl rfl rfl rfl) (a_cons (v_ 2) a_nil))))))
theorem ok_multiplied {f : Addr} {fd : FuncData} (T : Tx K mg) (C_sum_of : CalP P w K mg base "sum_of" 1 ["counts"] F_sum_of) (C_product_of : CalP P w K mg base "product_of" 1 ["one", "other"] F_product_of) (F : FnD K "multiplied" s_multiplied f fd) (hm : mg "multiplied" = some (.ref f)) : CalP P w K mg base "multiplied" 2 ["one", "other"] F_multiplied :=
  ⟨fn_okP F sc_multiplied fun cdv A outer s H E hr => b_multiplied T C_sum_of C_product_of hr, hm, F.kp, F.bindsN (fun _ _ _ _ _ _ us hl => match us, hl with | [_, _], _ => rfl), runP_len⟩
abbrev s_power_of : Stmt := top 42
abbrev N_power_of : List Str := ["one", "many", "n", "found", "turn"]
theorem sc_power_of : FnScope N_power_of ["one", "many", "n"] (defScope s_power_of) := ⟨rfl, rfl, rfl, by decide +kernel, rfl, by decide +kernel, by decide +kernel⟩
def D_power_of : DS :=
  (seqS (asgS 3 (tupE (consL (tupE (consL (bin mulD (tupE (consL (cst (.int 0)) nilL)) (var 2)) (consL (cst (.int 1)) nilL))) nilL)))
  (seqS (forS (rng1 (consL (var 1) nilL)) (.nm 4) (asgS 3 (callP F_multiplied (consL (var 3) (consL (var 0) nilL)))))
  (rtS (var 3))))
def F_power_of : FnP := runP 5 3 D_power_of
theorem b_power_of {cdv : Value} {A : Around} {outer : List Env} {s : Shared} {H : Hp} {E : XK} {f : Addr} (T : Tx K mg) (C_multiplied : CalP P w K mg base "multiplied" 2 ["one", "other"] F_multiplied) (hr : Room 2 (A.deeper (envOfC "power_of" (defScope s_power_of) s.heap.objs.size f cdv))) :
    QB (cxOf (L2N.CX P w) P w K mg base N_power_of "power_of" (defScope s_power_of) f cdv A outer s H E) (WE0 E) (defBody s_power_of) D_power_of :=
  (b_cons (s_set (ps_set (i := 3) sc_power_of.nd rfl (by first | exact .inl rfl | exact .inr rfl) (q_tup (a_cons (q_tup (a_cons (q_mul (q_tup (a_cons q_int a_nil)) (v_ 2)) (a_cons q_int a_nil))) a_nil))))
  (b_cons (s_for (passes_of rfl) rfl (i_rng1 (by rfl) T.n_range (a_cons (v_ 1) a_nil)) (pg_name (i := 4) sc_power_of.nd rfl (by first | exact .inl rfl | exact .inr rfl)) (b_one (s_set (ps_set (i := 3) sc_power_of.nd rfl (by first | exact .inl rfl | exact .inr rfl) (q_p C_multiplied hr (by omega) (L2N.takes_of rfl rfl rfl rfl) (a_cons (v_ 3) (a_cons (v_ 0) a_nil)))))))
  (b_one (s_ret (v_ 3)))))
theorem ok_power_of {f : Addr} {fd : FuncData} (T : Tx K mg) (C_multiplied : CalP P w K mg base "multiplied" 2 ["one", "other"] F_multiplied) (F : FnD K "power_of" s_power_of f fd) (hm : mg "power_of" = some (.ref f)) : CalP P w K mg base "power_of" 3 ["one", "many", "n"] F_power_of :=
  ⟨fn_okP F sc_power_of fun cdv A outer s H E hr => b_power_of T C_multiplied hr, hm, F.kp, F.bindsN (fun _ _ _ _ _ _ us hl => match us, hl with | [_, _, _], _ => rfl), runP_len⟩
abbrev s_added : Stmt := top 35
abbrev N_added : List Str := ["one", "other", "counts", "powers", "many"]
theorem sc_added : FnScope N_added ["one", "other"] (defScope s_added) := ⟨rfl, rfl, rfl, by decide +kernel, rfl, by decide +kernel, by decide +kernel⟩
def D_added : DS :=
  (seqS (asgS 2 (dictN (var 0)))
  (seqS (forS (seqI (var 1)) (.tp [3, 4]) (putN (bin addD (getN (var 2) (consL (var 3) (consL (cst (.int 0)) nilL))) (var 4)) (var 2) (var 3)))
  (rtS (callD F_sum_of (consL (var 2) nilL)))))
def F_added : FnP := runP 5 2 D_added
theorem b_added {cdv : Value} {A : Around} {outer : List Env} {s : Shared} {H : Hp} {E : XK} {f : Addr} (T : Tx K mg) (C_sum_of : CalP P w K mg base "sum_of" 1 ["counts"] F_sum_of) (hr : Room 1 (A.deeper (envOfC "added" (defScope s_added) s.heap.objs.size f cdv))) :
    QB (cxOf (L2N.CX P w) P w K mg base N_added "added" (defScope s_added) f cdv A outer s H E) (WE0 E) (defBody s_added) D_added :=
  (b_cons (s_set (ps_set (i := 2) sc_added.nd rfl (by first | exact .inl rfl | exact .inr rfl) (q_dict hr rfl T.n_dict (v_ 0))))
  (b_cons (s_for (passes_of rfl) rfl (i_seq (v_ 1)) (pg_tup rfl (pgs_cons (pg_name (i := 3) sc_added.nd rfl (by first | exact .inl rfl | exact .inr rfl)) (pgs_cons (pg_name (i := 4) sc_added.nd rfl (by first | exact .inl rfl | exact .inr rfl)) pgs_nil))) (b_one (s_putN (ps_asg (q_add (q_getN hr (v_ 2) (a_cons (v_ 3) (a_cons q_int a_nil))) (v_ 4)) (pg_sub (v_ 2) (v_ 3) (set_dct (room9 hr)))))))
  (b_one (s_ret (q_dl C_sum_of hr (by omega) (L2N.takes_of rfl rfl rfl rfl) (a_cons (v_ 2) a_nil))))))
theorem ok_added {f : Addr} {fd : FuncData} (T : Tx K mg) (C_sum_of : CalP P w K mg base "sum_of" 1 ["counts"] F_sum_of) (F : FnD K "added" s_added f fd) (hm : mg "added" = some (.ref f)) : CalP P w K mg base "added" 2 ["one", "other"] F_added :=
  ⟨fn_okP F sc_added fun cdv A outer s H E hr => b_added T C_sum_of hr, hm, F.kp, F.bindsN (fun _ _ _ _ _ _ us hl => match us, hl with | [_, _], _ => rfl), runP_len⟩
abbrev s_new_number : Stmt := top 58
abbrev N_new_number : List Str := ["web", "lot", "x", "n", "into", "out", "y"]
theorem sc_new_number : FnScope N_new_number ["web", "lot", "x"] (defScope s_new_number) := ⟨rfl, rfl, rfl, by decide +kernel, rfl, by decide +kernel, by decide +kernel⟩
def D_new_number : DS :=
  (seqS (parS [3, 4, 5] (consL (blt lenD (consL (var 0) nilL)) (consL (callP F_power_of (consL (tupE nilL) (consL (cst (.int 0)) (consL (blt lenD (consL (var 0) nilL)) nilL)))) (consL (callP F_power_of (consL (tupE nilL) (consL (cst (.int 0)) (consL (blt lenD (consL (var 0) nilL)) nilL)))) nilL))))
  (seqS (forS (rng1 (consL (var 3) nilL)) (.nm 6) (ifS (asB (bin gtI (ixE (ixE (var 0) (var 6)) (var 2)) (cst (.int 0)))) (asgS 4 (callP F_multiplied (consL (var 4) (consL (callP F_power_of (consL (ixE (var 1) (var 6)) (consL (ixE (ixE (var 0) (var 6)) (var 2)) (consL (var 3) nilL)))) nilL)))) (asgS 5 (callP F_multiplied (consL (var 5) (consL (callP F_power_of (consL (ixE (var 1) (var 6)) (consL (un negD (ixE (ixE (var 0) (var 6)) (var 2))) (consL (var 3) nilL)))) nilL))))))
  (rtS (callP F_divided (consL (callP F_added (consL (var 4) (consL (var 5) nilL))) (consL (ixE (var 1) (var 2)) nilL))))))
def F_new_number : FnP := runP 7 3 D_new_number
theorem b_new_number {cdv : Value} {A : Around} {outer : List Env} {s : Shared} {H : Hp} {E : XK} {f : Addr} (T : Tx K mg) (C_divided : CalP P w K mg base "divided" 3 ["one", "other"] F_divided) (C_power_of : CalP P w K mg base "power_of" 3 ["one", "many", "n"] F_power_of) (C_added : CalP P w K mg base "added" 2 ["one", "other"] F_added) (C_multiplied : CalP P w K mg base "multiplied" 2 ["one", "other"] F_multiplied) (hr : Room 3 (A.deeper (envOfC "new_number" (defScope s_new_number) s.heap.objs.size f cdv))) :
    QB (cxOf (L2N.CX P w) P w K mg base N_new_number "new_number" (defScope s_new_number) f cdv A outer s H E) (WE0 E) (defBody s_new_number) D_new_number :=
  (b_cons (s_par3 (ps_par3 (i := 3) (j := 4) (l := 5) rfl sc_new_number.nd rfl rfl rfl (by decide) (by decide) (by decide) rfl rfl rfl (a_cons (q_b bLen T.n_len (by decide +kernel) (a_cons (v_ 0) a_nil)) (a_cons (q_p C_power_of hr (by omega) (L2N.takes_of rfl rfl rfl rfl) (a_cons (q_tup a_nil) (a_cons q_int (a_cons (q_b bLen T.n_len (by decide +kernel) (a_cons (v_ 0) a_nil)) a_nil)))) (a_cons (q_p C_power_of hr (by omega) (L2N.takes_of rfl rfl rfl rfl) (a_cons (q_tup a_nil) (a_cons q_int (a_cons (q_b bLen T.n_len (by decide +kernel) (a_cons (v_ 0) a_nil)) a_nil)))) a_nil))) (by rfl)))
  (b_cons (s_for (passes_of rfl) rfl (i_rng1 (by rfl) T.n_range (a_cons (v_ 3) a_nil)) (pg_name (i := 6) sc_new_number.nd rfl (by first | exact .inl rfl | exact .inr rfl)) (b_one (s_if (t_c (cGt) (q_ix (q_ix (v_ 0) (v_ 6) (fun _ _ => rfl)) (v_ 2) (fun _ _ => rfl)) q_int) (b_one (s_set (ps_set (i := 4) sc_new_number.nd rfl (by first | exact .inl rfl | exact .inr rfl) (q_p C_multiplied hr (by omega) (L2N.takes_of rfl rfl rfl rfl) (a_cons (v_ 4) (a_cons (q_p C_power_of hr (by omega) (L2N.takes_of rfl rfl rfl rfl) (a_cons (q_ix (v_ 1) (v_ 6) (fun _ _ => rfl)) (a_cons (q_ix (q_ix (v_ 0) (v_ 6) (fun _ _ => rfl)) (v_ 2) (fun _ _ => rfl)) (a_cons (v_ 3) a_nil)))) a_nil)))))) (b_one (s_set (ps_set (i := 5) sc_new_number.nd rfl (by first | exact .inl rfl | exact .inr rfl) (q_p C_multiplied hr (by omega) (L2N.takes_of rfl rfl rfl rfl) (a_cons (v_ 5) (a_cons (q_p C_power_of hr (by omega) (L2N.takes_of rfl rfl rfl rfl) (a_cons (q_ix (v_ 1) (v_ 6) (fun _ _ => rfl)) (a_cons (q_neg (q_ix (q_ix (v_ 0) (v_ 6) (fun _ _ => rfl)) (v_ 2) (fun _ _ => rfl))) (a_cons (v_ 3) a_nil)))) a_nil)))))))))
  (b_one (s_ret (q_p C_divided hr (by omega) (L2N.takes_of rfl rfl rfl rfl) (a_cons (q_p C_added hr (by omega) (L2N.takes_of rfl rfl rfl rfl) (a_cons (v_ 4) (a_cons (v_ 5) a_nil))) (a_cons (q_ix (v_ 1) (v_ 2) (fun _ _ => rfl)) a_nil)))))))
theorem ok_new_number {f : Addr} {fd : FuncData} (T : Tx K mg) (C_divided : CalP P w K mg base "divided" 3 ["one", "other"] F_divided) (C_power_of : CalP P w K mg base "power_of" 3 ["one", "many", "n"] F_power_of) (C_added : CalP P w K mg base "added" 2 ["one", "other"] F_added) (C_multiplied : CalP P w K mg base "multiplied" 2 ["one", "other"] F_multiplied) (F : FnD K "new_number" s_new_number f fd) (hm : mg "new_number" = some (.ref f)) : CalP P w K mg base "new_number" 4 ["web", "lot", "x"] F_new_number :=
  ⟨fn_okP F sc_new_number fun cdv A outer s H E hr => b_new_number T C_divided C_power_of C_added C_multiplied hr, hm, F.kp, F.bindsN (fun _ _ _ _ _ _ us hl => match us, hl with | [_, _, _], _ => rfl), runP_len⟩
abbrev s_behind_lot : Stmt := top 59
abbrev N_behind_lot : List Str := ["web", "lot", "x", "y", "one"]
theorem sc_behind_lot : FnScope N_behind_lot ["web", "lot", "x"] (defScope s_behind_lot) := ⟨rfl, rfl, rfl, by decide +kernel, rfl, by decide +kernel, by decide +kernel⟩
def D_behind_lot : DS :=
  (rtS (frzE (lcF [3, 4] (enumI (consL (var 1) nilL)) (.tp [3, 4]) yes (ifE (asB (bin eqD (var 3) (var 2))) (callP F_new_number (consL (var 0) (consL (var 1) (consL (var 2) nilL)))) (var 4)))))
def F_behind_lot : FnP := runP 5 3 D_behind_lot
theorem b_behind_lot {cdv : Value} {A : Around} {outer : List Env} {s : Shared} {H : Hp} {E : XK} {f : Addr} (T : Tx K mg) (C_new_number : CalP P w K mg base "new_number" 4 ["web", "lot", "x"] F_new_number) (hr : Room 4 (A.deeper (envOfC "behind_lot" (defScope s_behind_lot) s.heap.objs.size f cdv))) :
    QB (cxOf (L2N.CX P w) P w K mg base N_behind_lot "behind_lot" (defScope s_behind_lot) f cdv A outer s H E) (WE0 E) (defBody s_behind_lot) D_behind_lot :=
  (b_one (s_ret (q_frz (f_lc (own := [("y", 3), ("one", 4)]) rfl sc_behind_lot.nd (i_enum (by rfl) T.n_enumerate (a_cons (v_ 1) a_nil)) (blkOk_by (N := N_behind_lot) (sc := defScope s_behind_lot) (own := [("y", 3), ("one", 4)]) (by decide +kernel)) (by decide) (fun _ _ _ _ _ => (pg_tup rfl (pgs_cons (pg_name (i := 3) sc_behind_lot.nd rfl (by first | exact .inl rfl | exact .inr rfl)) (pgs_cons (pg_name (i := 4) sc_behind_lot.nd rfl (by first | exact .inl rfl | exact .inr rfl)) pgs_nil)))) (fun _ _ _ _ _ => ts_nil) (fun _ _ _ _ _ => (q_if (t_c (cEq hr) (v_ 3) (v_ 2)) (q_p C_new_number hr (by omega) takesN (a_cons (v_ 0) (a_cons (v_ 1) (a_cons (v_ 2) a_nil)))) (v_ 4)))))))
theorem ok_behind_lot {f : Addr} {fd : FuncData} (T : Tx K mg) (C_new_number : CalP P w K mg base "new_number" 4 ["web", "lot", "x"] F_new_number) (F : FnD K "behind_lot" s_behind_lot f fd) (hm : mg "behind_lot" = some (.ref f)) : CalP P w K mg base "behind_lot" 5 ["web", "lot", "x"] F_behind_lot :=
  ⟨fn_okP F sc_behind_lot fun cdv A outer s H E hr => b_behind_lot T C_new_number hr, hm, F.kp, F.bindsN (fun _ _ _ _ _ _ us hl => match us, hl with | [_, _, _], _ => rfl), runP_len⟩
abbrev s_frozen : Stmt := top 19
abbrev N_frozen : List Str := ["table", "line"]
theorem sc_frozen : FnScope N_frozen ["table"] (defScope s_frozen) := ⟨rfl, rfl, rfl, by decide +kernel, rfl, by decide +kernel, by decide +kernel⟩
def D_frozen : DS :=
  (rtS (blt tupD (consL (frzE (lcF [1] (seqI (var 0)) (.nm 1) yes (blt tupD (consL (var 1) nilL)))) nilL)))
def F_frozen : FnP := runP 2 1 D_frozen
theorem b_frozen {cdv : Value} {A : Around} {outer : List Env} {s : Shared} {H : Hp} {E : XK} {f : Addr} (T : Tx K mg)  (hr : Room 0 (A.deeper (envOfC "frozen" (defScope s_frozen) s.heap.objs.size f cdv))) :
    QB (cxOf (L2N.CX P w) P w K mg base N_frozen "frozen" (defScope s_frozen) f cdv A outer s H E) (WE0 E) (defBody s_frozen) D_frozen :=
  (b_one (s_ret (q_bt bTuple T.n_tuple (by decide +kernel) (a_cons (q_frz (f_lc (own := [("line", 1)]) rfl sc_frozen.nd (i_seq (v_ 0)) (blkOk_by (N := N_frozen) (sc := defScope s_frozen) (own := [("line", 1)]) (by decide +kernel)) (by decide) (fun _ _ _ _ _ => (pg_name (i := 1) sc_frozen.nd rfl (by first | exact .inl rfl | exact .inr rfl))) (fun _ _ _ _ _ => ts_nil) (fun _ _ _ _ _ => (q_bt bTuple T.n_tuple (by decide +kernel) (a_cons (v_ 1) a_nil))))) a_nil))))
theorem ok_frozen {f : Addr} {fd : FuncData} (T : Tx K mg)  (F : FnD K "frozen" s_frozen f fd) (hm : mg "frozen" = some (.ref f)) : CalP P w K mg base "frozen" 1 ["table"] F_frozen :=
  ⟨fn_okP F sc_frozen fun cdv A outer s H E hr => b_frozen T  hr, hm, F.kp, F.bindsN (fun _ _ _ _ _ _ us hl => match us, hl with | [_], _ => rfl), runP_len⟩
abbrev s_added_by : Stmt := top 20
abbrev N_added_by : List Str := ["left", "right"]
theorem sc_added_by : FnScope N_added_by ["left", "right"] (defScope s_added_by) := ⟨rfl, rfl, rfl, by decide +kernel, rfl, by decide +kernel, by decide +kernel⟩
def D_added_by : DS :=
  (rtS (bin divD (bin addD (bin mulD (blt absD (consL (var 0) nilL)) (var 1)) (bin mulD (var 0) (blt absD (consL (var 1) nilL)))) (cst (.int 2))))
def F_added_by : FnP := runP 2 2 D_added_by
theorem b_added_by {cdv : Value} {A : Around} {outer : List Env} {s : Shared} {H : Hp} {E : XK} {f : Addr} (T : Tx K mg)  (hr : Room 0 (A.deeper (envOfC "added_by" (defScope s_added_by) s.heap.objs.size f cdv))) :
    QB (cxOf (L2N.CX P w) P w K mg base N_added_by "added_by" (defScope s_added_by) f cdv A outer s H E) (WE0 E) (defBody s_added_by) D_added_by :=
  (b_one (s_ret (q_div (q_add (q_mul (q_b bAbs T.n_abs (by decide +kernel) (a_cons (v_ 0) a_nil)) (v_ 1)) (q_mul (v_ 0) (q_b bAbs T.n_abs (by decide +kernel) (a_cons (v_ 1) a_nil)))) q_int)))
theorem ok_added_by {f : Addr} {fd : FuncData} (T : Tx K mg)  (F : FnD K "added_by" s_added_by f fd) (hm : mg "added_by" = some (.ref f)) : CalP P w K mg base "added_by" 1 ["left", "right"] F_added_by :=
  ⟨fn_okP F sc_added_by fun cdv A outer s H E hr => b_added_by T  hr, hm, F.kp, F.bindsN (fun _ _ _ _ _ _ us hl => match us, hl with | [_, _], _ => rfl), runP_len⟩
abbrev s_behind_turn : Stmt := top 21
abbrev N_behind_turn : List Str := ["web", "x", "n", "table", "y", "z"]
theorem sc_behind_turn : FnScope N_behind_turn ["web", "x"] (defScope s_behind_turn) := ⟨rfl, rfl, rfl, by decide +kernel, rfl, by decide +kernel, by decide +kernel⟩
def D_behind_turn : DS :=
  (seqS (parS [2, 3] (consL (blt lenD (consL (var 0) nilL)) (consL (ownE (szF nilL)) nilL)))
  (seqS (forS (rng1 (consL (var 2) nilL)) (.nm 4) (exS (metE appM (var 3) (consL (frzE (lcF [5] (rng1 (consL (var 2) nilL)) (.nm 5) yes (ifE (asB (bin inD (var 1) (tupE (consL (var 4) (consL (var 5) nilL))))) (un negD (ixE (ixE (var 0) (var 4)) (var 5))) (bin addD (ixE (ixE (var 0) (var 4)) (var 5)) (callP F_added_by (consL (ixE (ixE (var 0) (var 4)) (var 1)) (consL (ixE (ixE (var 0) (var 1)) (var 5)) nilL))))))) nilL))))
  (rtS (callP F_frozen (consL (var 3) nilL)))))
def F_behind_turn : FnP := runP 6 2 D_behind_turn
theorem b_behind_turn {cdv : Value} {A : Around} {outer : List Env} {s : Shared} {H : Hp} {E : XK} {f : Addr} (T : Tx K mg) (C_frozen : CalP P w K mg base "frozen" 1 ["table"] F_frozen) (C_added_by : CalP P w K mg base "added_by" 1 ["left", "right"] F_added_by) (hr : Room 1 (A.deeper (envOfC "behind_turn" (defScope s_behind_turn) s.heap.objs.size f cdv))) :
    QB (cxOf (L2N.CX P w) P w K mg base N_behind_turn "behind_turn" (defScope s_behind_turn) f cdv A outer s H E) (WE0 E) (defBody s_behind_turn) D_behind_turn :=
  (b_cons (s_par (ps_par (i := 2) (j := 3) rfl sc_behind_turn.nd rfl rfl (by decide) rfl rfl (a_cons (q_b bLen T.n_len (by decide +kernel) (a_cons (v_ 0) a_nil)) (a_cons (q_own (f_lst a_nil)) a_nil)) (by rfl)))
  (b_cons (s_for (passes_of rfl) rfl (i_rng1 (by rfl) T.n_range (a_cons (v_ 2) a_nil)) (pg_name (i := 4) sc_behind_turn.nd rfl (by first | exact .inl rfl | exact .inr rfl)) (b_one (s_expr (q_met m_app (pe_bm PySem.F.plainAttrs_list PySem.F.slot_list_append PySem.F.type_list_append mt_append (v_ 3) (a_cons (q_frz (f_lc (own := [("z", 5)]) rfl sc_behind_turn.nd (i_rng1 (by rfl) T.n_range (a_cons (v_ 2) a_nil)) (blkOk_by (N := N_behind_turn) (sc := defScope s_behind_turn) (own := [("z", 5)]) (by decide +kernel)) (by decide) (fun _ _ _ _ _ => (pg_name (i := 5) sc_behind_turn.nd rfl (by first | exact .inl rfl | exact .inr rfl))) (fun _ _ _ _ _ => ts_nil) (fun _ _ _ _ _ => (q_if (t_c (cIn hr) (v_ 1) (q_tup (a_cons (v_ 4) (a_cons (v_ 5) a_nil)))) (q_neg (q_ix (q_ix (v_ 0) (v_ 4) (fun _ _ => rfl)) (v_ 5) (fun _ _ => rfl))) (q_add (q_ix (q_ix (v_ 0) (v_ 4) (fun _ _ => rfl)) (v_ 5) (fun _ _ => rfl)) (q_p C_added_by hr (by omega) takesN (a_cons (q_ix (q_ix (v_ 0) (v_ 4) (fun _ _ => rfl)) (v_ 1) (fun _ _ => rfl)) (a_cons (q_ix (q_ix (v_ 0) (v_ 1) (fun _ _ => rfl)) (v_ 5) (fun _ _ => rfl)) a_nil)))))))) a_nil))))))
  (b_one (s_ret (q_p C_frozen hr (by omega) (L2N.takes_of rfl rfl rfl rfl) (a_cons (v_ 3) a_nil))))))
theorem ok_behind_turn {f : Addr} {fd : FuncData} (T : Tx K mg) (C_frozen : CalP P w K mg base "frozen" 1 ["table"] F_frozen) (C_added_by : CalP P w K mg base "added_by" 1 ["left", "right"] F_added_by) (F : FnD K "behind_turn" s_behind_turn f fd) (hm : mg "behind_turn" = some (.ref f)) : CalP P w K mg base "behind_turn" 2 ["web", "x"] F_behind_turn :=
  ⟨fn_okP F sc_behind_turn fun cdv A outer s H E hr => b_behind_turn T C_frozen C_added_by hr, hm, F.kp, F.bindsN (fun _ _ _ _ _ _ us hl => match us, hl with | [_, _], _ => rfl), runP_len⟩
abbrev s_lots_by_beats : Stmt := top 72
abbrev N_lots_by_beats : List Str := ["web", "many", "now", "lot", "told", "found", "beat", "x"]
theorem sc_lots_by_beats : FnScope N_lots_by_beats ["web", "many"] (defScope s_lots_by_beats) := ⟨rfl, rfl, rfl, by decide +kernel, rfl, by decide +kernel, by decide +kernel⟩
def D_lots_by_beats : DS :=
  (seqS (parS [2, 3, 4] (consL (callP F_parted (consL (var 0) nilL)) (consL (callP F_names_of (consL (blt lenD (consL (var 0) nilL)) nilL)) (consL (callP F_sides_of (consL (var 0) nilL)) nilL))))
  (seqS (asgS 5 (ownE (szF (consL (var 3) nilL))))
  (seqS (forS (rng1 (consL (var 1) nilL)) (.nm 6) (seqS (forS (seqI (ixE (var 4) (bin modD (var 6) (cst (.int 2))))) (.nm 7) (parS [3, 2] (consL (callP F_behind_lot (consL (var 2) (consL (var 3) (consL (var 7) nilL)))) (consL (callP F_behind_turn (consL (var 2) (consL (var 7) nilL))) nilL))))
  (exS (metE appM (var 5) (consL (var 3) nilL)))))
  (rtS (var 5)))))
def F_lots_by_beats : FnP := runP 8 2 D_lots_by_beats
theorem b_lots_by_beats {cdv : Value} {A : Around} {outer : List Env} {s : Shared} {H : Hp} {E : XK} {f : Addr} (T : Tx K mg) (C_parted : CalP P w K mg base "parted" 3 ["web"] F_parted) (C_names_of : CalP P w K mg base "names_of" 2 ["n"] F_names_of) (C_sides_of : CalP P w K mg base "sides_of" 2 ["web"] F_sides_of) (C_behind_lot : CalP P w K mg base "behind_lot" 5 ["web", "lot", "x"] F_behind_lot) (C_behind_turn : CalP P w K mg base "behind_turn" 2 ["web", "x"] F_behind_turn) (hr : Room 5 (A.deeper (envOfC "lots_by_beats" (defScope s_lots_by_beats) s.heap.objs.size f cdv))) :
    QB (cxOf (L2N.CX P w) P w K mg base N_lots_by_beats "lots_by_beats" (defScope s_lots_by_beats) f cdv A outer s H E) (WE0 E) (defBody s_lots_by_beats) D_lots_by_beats :=
  (b_cons (s_par3 (ps_par3 (i := 2) (j := 3) (l := 4) rfl sc_lots_by_beats.nd rfl rfl rfl (by decide) (by decide) (by decide) rfl rfl rfl (a_cons (q_p C_parted hr (by omega) (L2N.takes_of rfl rfl rfl rfl) (a_cons (v_ 0) a_nil)) (a_cons (q_p C_names_of hr (by omega) (L2N.takes_of rfl rfl rfl rfl) (a_cons (q_b bLen T.n_len (by decide +kernel) (a_cons (v_ 0) a_nil)) a_nil)) (a_cons (q_p C_sides_of hr (by omega) (L2N.takes_of rfl rfl rfl rfl) (a_cons (v_ 0) a_nil)) a_nil))) (by rfl)))
  (b_cons (s_set (ps_set (i := 5) sc_lots_by_beats.nd rfl (by first | exact .inl rfl | exact .inr rfl) (q_own (f_lst (a_cons (v_ 3) a_nil)))))
  (b_cons (s_for (passes_of rfl) rfl (i_rng1 (by rfl) T.n_range (a_cons (v_ 1) a_nil)) (pg_name (i := 6) sc_lots_by_beats.nd rfl (by first | exact .inl rfl | exact .inr rfl)) (b_cons (s_for (passes_of rfl) rfl (i_seq (q_ix (v_ 4) (q_mod (v_ 6) q_int) (fun _ _ => rfl))) (pg_name (i := 7) sc_lots_by_beats.nd rfl (by first | exact .inl rfl | exact .inr rfl)) (b_one (s_par (ps_par (i := 3) (j := 2) rfl sc_lots_by_beats.nd rfl rfl (by decide) rfl rfl (a_cons (q_p C_behind_lot hr (by omega) (L2N.takes_of rfl rfl rfl rfl) (a_cons (v_ 2) (a_cons (v_ 3) (a_cons (v_ 7) a_nil)))) (a_cons (q_p C_behind_turn hr (by omega) (L2N.takes_of rfl rfl rfl rfl) (a_cons (v_ 2) (a_cons (v_ 7) a_nil))) a_nil)) (by rfl)))))
  (b_one (s_expr (q_met m_app (pe_bm PySem.F.plainAttrs_list PySem.F.slot_list_append PySem.F.type_list_append mt_append (v_ 5) (a_cons (v_ 3) a_nil)))))))
  (b_one (s_ret (v_ 5))))))
theorem ok_lots_by_beats {f : Addr} {fd : FuncData} (T : Tx K mg) (C_parted : CalP P w K mg base "parted" 3 ["web"] F_parted) (C_names_of : CalP P w K mg base "names_of" 2 ["n"] F_names_of) (C_sides_of : CalP P w K mg base "sides_of" 2 ["web"] F_sides_of) (C_behind_lot : CalP P w K mg base "behind_lot" 5 ["web", "lot", "x"] F_behind_lot) (C_behind_turn : CalP P w K mg base "behind_turn" 2 ["web", "x"] F_behind_turn) (F : FnD K "lots_by_beats" s_lots_by_beats f fd) (hm : mg "lots_by_beats" = some (.ref f)) : CalP P w K mg base "lots_by_beats" 6 ["web", "many"] F_lots_by_beats :=
  ⟨fn_okP F sc_lots_by_beats fun cdv A outer s H E hr => b_lots_by_beats T C_parted C_names_of C_sides_of C_behind_lot C_behind_turn hr, hm, F.kp, F.bindsN (fun _ _ _ _ _ _ us hl => match us, hl with | [_, _], _ => rfl), runP_len⟩
abbrev s_beats : Stmt := top 73
abbrev N_beats : List Str := ["web", "many"]
theorem sc_beats : FnScope N_beats ["web", "many"] (defScope s_beats) := ⟨rfl, rfl, rfl, by decide +kernel, rfl, by decide +kernel, by decide +kernel⟩
def D_beats : DS :=
  (seqS (exS (callP F_need_web (consL (var 0) nilL)))
  (seqS (exS (callP F_need_good_tree (consL (var 0) nilL)))
  (seqS (ifS (notB (asB (callP F_is_from (consL (var 1) (consL (cst (.int 0)) (consL (cst (.int 40)) nilL)))))) (raS "BadTimes") nilS)
  (rtS (blt tupD (consL (ixE (callP F_lots_by_beats (consL (var 0) (consL (var 1) nilL))) (un negD (cst (.int 1)))) nilL))))))
def F_beats : FnP := runP 2 2 D_beats
theorem b_beats {cdv : Value} {A : Around} {outer : List Env} {s : Shared} {H : Hp} {E : XK} {f : Addr} (T : Tx K mg) (C_need_web : CalP P w K mg base "need_web" 5 ["value"] F_need_web) (C_need_good_tree : CalP P w K mg base "need_good_tree" 5 ["web"] F_need_good_tree) (C_is_from : CalP P w K mg base "is_from" 2 ["value", "low", "high"] F_is_from) (C_lots_by_beats : CalP P w K mg base "lots_by_beats" 6 ["web", "many"] F_lots_by_beats) (hr : Room 6 (A.deeper (envOfC "beats" (defScope s_beats) s.heap.objs.size f cdv))) :
    QB (cxOf (L2N.CX P w) P w K mg base N_beats "beats" (defScope s_beats) f cdv A outer s H E) (WE0 E) (defBody s_beats) D_beats :=
  (b_cons (s_expr (q_p C_need_web hr (by omega) (L2N.takes_of rfl rfl rfl rfl) (a_cons (v_ 0) a_nil)))
  (b_cons (s_expr (q_p C_need_good_tree hr (by omega) (L2N.takes_of rfl rfl rfl rfl) (a_cons (v_ 0) a_nil)))
  (b_cons (s_if (t_not (t_val (q_p C_is_from hr (by omega) (L2N.takes_of rfl rfl rfl rfl) (a_cons (v_ 1) (a_cons q_int (a_cons (c_int T.i_MOST_BEATS) a_nil)))))) (b_one (s_ra rfl (L2N.takes_of rfl rfl rfl rfl) T.e_BadTimes)) b_nil)
  (b_one (s_ret (q_bt bTuple T.n_tuple (by decide +kernel) (a_cons (q_ix (q_p C_lots_by_beats hr (by omega) (L2N.takes_of rfl rfl rfl rfl) (a_cons (v_ 0) (a_cons (v_ 1) a_nil))) (q_neg q_int) (fun _ _ => rfl)) a_nil)))))))
theorem ok_beats {f : Addr} {fd : FuncData} (T : Tx K mg) (C_need_web : CalP P w K mg base "need_web" 5 ["value"] F_need_web) (C_need_good_tree : CalP P w K mg base "need_good_tree" 5 ["web"] F_need_good_tree) (C_is_from : CalP P w K mg base "is_from" 2 ["value", "low", "high"] F_is_from) (C_lots_by_beats : CalP P w K mg base "lots_by_beats" 6 ["web", "many"] F_lots_by_beats) (F : FnD K "beats" s_beats f fd) (hm : mg "beats" = some (.ref f)) : CalP P w K mg base "beats" 7 ["web", "many"] F_beats :=
  ⟨fn_okP F sc_beats fun cdv A outer s H E hr => b_beats T C_need_web C_need_good_tree C_is_from C_lots_by_beats hr, hm, F.kp, F.bindsN (fun _ _ _ _ _ _ us hl => match us, hl with | [_, _], _ => rfl), runP_len⟩
abbrev s_kind_of_tree : Stmt := top 30
abbrev N_kind_of_tree : List Str := ["web", "n", "x", "near", "ends", "z"]
theorem sc_kind_of_tree : FnScope N_kind_of_tree ["web"] (defScope s_kind_of_tree) := ⟨rfl, rfl, rfl, by decide +kernel, rfl, by decide +kernel, by decide +kernel⟩
def D_kind_of_tree : DS :=
  (seqS (asgS 1 (blt lenD (consL (var 0) nilL)))
  (seqS (forS (rng1 (consL (var 1) nilL)) (.nm 2) (seqS (asgS 3 (callP F_neighbours (consL (var 0) (consL (var 2) nilL))))
  (ifS (asB (bin eqD (blt lenD (consL (var 3) nilL)) (cst (.int 3)))) (seqS (asgS 4 (frzE (lcF [5] (seqI (var 3)) (.nm 5) (asB (bin eqD (blt lenD (consL (callP F_neighbours (consL (var 0) (consL (var 5) nilL))) nilL)) (cst (.int 1)))) (var 5))))
  (rtS (bin addD (ifE (asB (bin gtI (blt lenD (consL (var 4) nilL)) (cst (.int 1)))) (cst (.str "D")) (cst (.str "E"))) (blt strD (consL (var 1) nilL))))) nilS)))
  (rtS (bin addD (cst (.str "A")) (blt strD (consL (var 1) nilL))))))
def F_kind_of_tree : FnP := runP 6 1 D_kind_of_tree
theorem b_kind_of_tree {cdv : Value} {A : Around} {outer : List Env} {s : Shared} {H : Hp} {E : XK} {f : Addr} (T : Tx K mg) (C_neighbours : CalP P w K mg base "neighbours" 1 ["web", "x"] F_neighbours) (hr : Room 1 (A.deeper (envOfC "kind_of_tree" (defScope s_kind_of_tree) s.heap.objs.size f cdv))) :
    QB (cxOf (L2N.CX P w) P w K mg base N_kind_of_tree "kind_of_tree" (defScope s_kind_of_tree) f cdv A outer s H E) (WE0 E) (defBody s_kind_of_tree) D_kind_of_tree :=
  (b_cons (s_set (ps_set (i := 1) sc_kind_of_tree.nd rfl (by first | exact .inl rfl | exact .inr rfl) (q_b bLen T.n_len (by decide +kernel) (a_cons (v_ 0) a_nil))))
  (b_cons (s_for (passes_of rfl) rfl (i_rng1 (by rfl) T.n_range (a_cons (v_ 1) a_nil)) (pg_name (i := 2) sc_kind_of_tree.nd rfl (by first | exact .inl rfl | exact .inr rfl)) (b_cons (s_set (ps_set (i := 3) sc_kind_of_tree.nd rfl (by first | exact .inl rfl | exact .inr rfl) (q_p C_neighbours hr (by omega) (L2N.takes_of rfl rfl rfl rfl) (a_cons (v_ 0) (a_cons (v_ 2) a_nil)))))
  (b_one (s_if (t_c (cEq hr) (q_b bLen T.n_len (by decide +kernel) (a_cons (v_ 3) a_nil)) q_int) (b_cons (s_setLc Keeps.frz (own := [("z", 5)]) rfl sc_kind_of_tree.nd rfl rfl (sw_true rfl rfl rfl (by decide +kernel)) (i_seq (v_ 3)) (blkOk_by (N := N_kind_of_tree) (sc := defScope s_kind_of_tree) (own := [("z", 5)]) (by decide +kernel)) (by decide) (fun _ _ _ _ _ => (pg_name (i := 5) sc_kind_of_tree.nd rfl (by first | exact .inl rfl | exact .inr rfl))) (fun _ _ _ _ _ => (ts_one (t_c (cEq hr) (q_b bLen T.n_len (by decide +kernel) (a_cons (q_p C_neighbours hr (by omega) takesN (a_cons (v_ 0) (a_cons (v_ 5) a_nil))) a_nil)) q_int))) (fun _ _ _ _ _ => (v_ 5)))
  (b_one (s_ret (q_add (q_if (t_c (cGt) (q_b bLen T.n_len (by decide +kernel) (a_cons (v_ 4) a_nil)) q_int) q_str q_str) (q_bt bStr T.n_str (by decide +kernel) (a_cons (v_ 1) a_nil)))))) b_nil))))
  (b_one (s_ret (q_add q_str (q_bt bStr T.n_str (by decide +kernel) (a_cons (v_ 1) a_nil)))))))
theorem ok_kind_of_tree {f : Addr} {fd : FuncData} (T : Tx K mg) (C_neighbours : CalP P w K mg base "neighbours" 1 ["web", "x"] F_neighbours) (F : FnD K "kind_of_tree" s_kind_of_tree f fd) (hm : mg "kind_of_tree" = some (.ref f)) : CalP P w K mg base "kind_of_tree" 2 ["web"] F_kind_of_tree :=
  ⟨fn_okP F sc_kind_of_tree fun cdv A outer s H E hr => b_kind_of_tree T C_neighbours hr, hm, F.kp, F.bindsN (fun _ _ _ _ _ _ us hl => match us, hl with | [_], _ => rfl), runP_len⟩
abbrev s_beat : Stmt := top 74
abbrev N_beat : List Str := ["web", "told"]
theorem sc_beat : FnScope N_beat ["web"] (defScope s_beat) := ⟨rfl, rfl, rfl, by decide +kernel, rfl, by decide +kernel, by decide +kernel⟩
def D_beat : DS :=
  (seqS (exS (callP F_need_web (consL (var 0) nilL)))
  (seqS (exS (callP F_need_good_tree (consL (var 0) nilL)))
  (seqS (asgS 1 (callP F_kind_of_tree (consL (var 0) nilL)))
  (seqS (ifS (asB (bin eqD (ixE (var 1) (cst (.int 0))) (cst (.str "A")))) (rtS (bin addD (blt lenD (consL (var 0) nilL)) (cst (.int 3)))) nilS)
  (rtS (ifE (asB (bin eqD (ixE (var 1) (cst (.int 0))) (cst (.str "D")))) (bin mulD (cst (.int 2)) (blt lenD (consL (var 0) nilL))) (cst (.int 14))))))))
def F_beat : FnP := runP 2 1 D_beat
theorem b_beat {cdv : Value} {A : Around} {outer : List Env} {s : Shared} {H : Hp} {E : XK} {f : Addr} (T : Tx K mg) (C_need_web : CalP P w K mg base "need_web" 5 ["value"] F_need_web) (C_need_good_tree : CalP P w K mg base "need_good_tree" 5 ["web"] F_need_good_tree) (C_kind_of_tree : CalP P w K mg base "kind_of_tree" 2 ["web"] F_kind_of_tree) (hr : Room 5 (A.deeper (envOfC "beat" (defScope s_beat) s.heap.objs.size f cdv))) :
    QB (cxOf (L2N.CX P w) P w K mg base N_beat "beat" (defScope s_beat) f cdv A outer s H E) (WE0 E) (defBody s_beat) D_beat :=
  (b_cons (s_expr (q_p C_need_web hr (by omega) (L2N.takes_of rfl rfl rfl rfl) (a_cons (v_ 0) a_nil)))
  (b_cons (s_expr (q_p C_need_good_tree hr (by omega) (L2N.takes_of rfl rfl rfl rfl) (a_cons (v_ 0) a_nil)))
  (b_cons (s_set (ps_set (i := 1) sc_beat.nd rfl (by first | exact .inl rfl | exact .inr rfl) (q_p C_kind_of_tree hr (by omega) (L2N.takes_of rfl rfl rfl rfl) (a_cons (v_ 0) a_nil))))
  (b_cons (s_if (t_c (cEq hr) (q_ix (v_ 1) q_int (fun _ _ => rfl)) q_str) (b_one (s_ret (q_add (q_b bLen T.n_len (by decide +kernel) (a_cons (v_ 0) a_nil)) q_int))) b_nil)
  (b_one (s_ret (q_if (t_c (cEq hr) (q_ix (v_ 1) q_int (fun _ _ => rfl)) q_str) (q_mul q_int (q_b bLen T.n_len (by decide +kernel) (a_cons (v_ 0) a_nil))) (c_int T.i_BEAT_E))))))))
theorem ok_beat {f : Addr} {fd : FuncData} (T : Tx K mg) (C_need_web : CalP P w K mg base "need_web" 5 ["value"] F_need_web) (C_need_good_tree : CalP P w K mg base "need_good_tree" 5 ["web"] F_need_good_tree) (C_kind_of_tree : CalP P w K mg base "kind_of_tree" 2 ["web"] F_kind_of_tree) (F : FnD K "beat" s_beat f fd) (hm : mg "beat" = some (.ref f)) : CalP P w K mg base "beat" 6 ["web"] F_beat :=
  ⟨fn_okP F sc_beat fun cdv A outer s H E hr => b_beat T C_need_web C_need_good_tree C_kind_of_tree hr, hm, F.kp, F.bindsN (fun _ _ _ _ _ _ us hl => match us, hl with | [_], _ => rfl), runP_len⟩
abbrev s_with_names : Stmt := top 24
abbrev N_with_names : List Str := ["web", "order", "n", "table", "y", "z", "x"]
theorem sc_with_names : FnScope N_with_names ["web", "order"] (defScope s_with_names) := ⟨rfl, rfl, rfl, by decide +kernel, rfl, by decide +kernel, by decide +kernel⟩
def D_with_names : DS :=
  (seqS (asgS 2 (blt lenD (consL (var 0) nilL)))
  (seqS (asgS 3 (ownE (lcF [6] (rng1 (consL (var 2) nilL)) (.nm 6) yes (ownE (repF (frzE (szF (consL (cst (.int 0)) nilL))) (var 2))))))
  (seqS (forS (rng1 (consL (var 2) nilL)) (.nm 4) (forS (rng1 (consL (var 2) nilL)) (.nm 5) (putS (ixE (ixE (var 0) (var 4)) (var 5)) (ixE (var 3) (ixE (var 1) (var 4))) (ixE (var 1) (var 5)))))
  (rtS (callP F_frozen (consL (var 3) nilL))))))
def F_with_names : FnP := runP 7 2 D_with_names
theorem b_with_names {cdv : Value} {A : Around} {outer : List Env} {s : Shared} {H : Hp} {E : XK} {f : Addr} (T : Tx K mg) (C_frozen : CalP P w K mg base "frozen" 1 ["table"] F_frozen) (hr : Room 1 (A.deeper (envOfC "with_names" (defScope s_with_names) s.heap.objs.size f cdv))) :
    QB (cxOf (L2N.CX P w) P w K mg base N_with_names "with_names" (defScope s_with_names) f cdv A outer s H E) (WE0 E) (defBody s_with_names) D_with_names :=
  (b_cons (s_set (ps_set (i := 2) sc_with_names.nd rfl (by first | exact .inl rfl | exact .inr rfl) (q_b bLen T.n_len (by decide +kernel) (a_cons (v_ 0) a_nil))))
  (b_cons (s_setLc Keeps.own (own := [("x", 6)]) rfl sc_with_names.nd rfl rfl (sw_true rfl rfl rfl (by decide +kernel)) (i_rng1 (by rfl) T.n_range (a_cons (v_ 2) a_nil)) (blkOk_by (N := N_with_names) (sc := defScope s_with_names) (own := [("x", 6)]) (by decide +kernel)) (by decide) (fun _ _ _ _ _ => (pg_name (i := 6) sc_with_names.nd rfl (by first | exact .inl rfl | exact .inr rfl))) (fun _ _ _ _ _ => ts_nil) (fun _ _ _ _ _ => (q_own (f_rep (q_frz (f_lst (a_cons q_int a_nil))) (v_ 2)))))
  (b_cons (s_for (passes_of rfl) rfl (i_rng1 (by rfl) T.n_range (a_cons (v_ 2) a_nil)) (pg_name (i := 4) sc_with_names.nd rfl (by first | exact .inl rfl | exact .inr rfl)) (b_one (s_for (passes_of rfl) rfl (i_rng1 (by rfl) T.n_range (a_cons (v_ 2) a_nil)) (pg_name (i := 5) sc_with_names.nd rfl (by first | exact .inl rfl | exact .inr rfl)) (b_one (s_put (ps_asg (q_ix (q_ix (v_ 0) (v_ 4) (fun _ _ => rfl)) (v_ 5) (fun _ _ => rfl)) (pg_sub (q_ix (v_ 3) (q_ix (v_ 1) (v_ 4) (fun _ _ => rfl)) (fun _ _ => rfl)) (q_ix (v_ 1) (v_ 5) (fun _ _ => rfl)) set_list)))))))
  (b_one (s_ret (q_p C_frozen hr (by omega) (L2N.takes_of rfl rfl rfl rfl) (a_cons (v_ 3) a_nil)))))))
theorem ok_with_names {f : Addr} {fd : FuncData} (T : Tx K mg) (C_frozen : CalP P w K mg base "frozen" 1 ["table"] F_frozen) (F : FnD K "with_names" s_with_names f fd) (hm : mg "with_names" = some (.ref f)) : CalP P w K mg base "with_names" 2 ["web", "order"] F_with_names :=
  ⟨fn_okP F sc_with_names fun cdv A outer s H E hr => b_with_names T C_frozen hr, hm, F.kp, F.bindsN (fun _ _ _ _ _ _ us hl => match us, hl with | [_, _], _ => rfl), runP_len⟩
abbrev s_is_steady_web : Stmt := top 75
abbrev N_is_steady_web : List Str := ["web", "n", "x"]
theorem sc_is_steady_web : FnScope N_is_steady_web ["web"] (defScope s_is_steady_web) := ⟨rfl, rfl, rfl, by decide +kernel, rfl, by decide +kernel, by decide +kernel⟩
def D_is_steady_web : DS :=
  (seqS (asgS 1 (blt lenD (consL (var 0) nilL)))
  (rtS (bin eqD (callP F_with_names (consL (callP F_behind_turn (consL (var 0) (consL (cst (.int 0)) nilL))) (consL (blt tupD (consL (frzE (lcF [2] (rng1 (consL (var 1) nilL)) (.nm 2) yes (bin modD (bin subD (var 2) (cst (.int 1))) (var 1)))) nilL)) nilL))) (var 0))))
def F_is_steady_web : FnP := runP 3 1 D_is_steady_web
theorem b_is_steady_web {cdv : Value} {A : Around} {outer : List Env} {s : Shared} {H : Hp} {E : XK} {f : Addr} (T : Tx K mg) (C_with_names : CalP P w K mg base "with_names" 2 ["web", "order"] F_with_names) (C_behind_turn : CalP P w K mg base "behind_turn" 2 ["web", "x"] F_behind_turn) (hr : Room 2 (A.deeper (envOfC "is_steady_web" (defScope s_is_steady_web) s.heap.objs.size f cdv))) :
    QB (cxOf (L2N.CX P w) P w K mg base N_is_steady_web "is_steady_web" (defScope s_is_steady_web) f cdv A outer s H E) (WE0 E) (defBody s_is_steady_web) D_is_steady_web :=
  (b_cons (s_set (ps_set (i := 1) sc_is_steady_web.nd rfl (by first | exact .inl rfl | exact .inr rfl) (q_b bLen T.n_len (by decide +kernel) (a_cons (v_ 0) a_nil))))
  (b_one (s_ret (q_c (cEq hr) (q_p C_with_names hr (by omega) (L2N.takes_of rfl rfl rfl rfl) (a_cons (q_p C_behind_turn hr (by omega) (L2N.takes_of rfl rfl rfl rfl) (a_cons (v_ 0) (a_cons q_int a_nil))) (a_cons (q_bt bTuple T.n_tuple (by decide +kernel) (a_cons (q_frz (f_lc (own := [("x", 2)]) rfl sc_is_steady_web.nd (i_rng1 (by rfl) T.n_range (a_cons (v_ 1) a_nil)) (blkOk_by (N := N_is_steady_web) (sc := defScope s_is_steady_web) (own := [("x", 2)]) (by decide +kernel)) (by decide) (fun _ _ _ _ _ => (pg_name (i := 2) sc_is_steady_web.nd rfl (by first | exact .inl rfl | exact .inr rfl))) (fun _ _ _ _ _ => ts_nil) (fun _ _ _ _ _ => (q_mod (q_sub (v_ 2) q_int) (v_ 1))))) a_nil)) a_nil))) (v_ 0)))))
theorem ok_is_steady_web {f : Addr} {fd : FuncData} (T : Tx K mg) (C_with_names : CalP P w K mg base "with_names" 2 ["web", "order"] F_with_names) (C_behind_turn : CalP P w K mg base "behind_turn" 2 ["web", "x"] F_behind_turn) (F : FnD K "is_steady_web" s_is_steady_web f fd) (hm : mg "is_steady_web" = some (.ref f)) : CalP P w K mg base "is_steady_web" 3 ["web"] F_is_steady_web :=
  ⟨fn_okP F sc_is_steady_web fun cdv A outer s H E hr => b_is_steady_web T C_with_names C_behind_turn hr, hm, F.kp, F.bindsN (fun _ _ _ _ _ _ us hl => match us, hl with | [_], _ => rfl), runP_len⟩
abbrev s_is_steady : Stmt := top 76
abbrev N_is_steady : List Str := ["web"]
theorem sc_is_steady : FnScope N_is_steady ["web"] (defScope s_is_steady) := ⟨rfl, rfl, rfl, by decide +kernel, rfl, by decide +kernel, by decide +kernel⟩
def D_is_steady : DS :=
  (seqS (exS (callP F_need_web (consL (var 0) nilL)))
  (rtS (callP F_is_steady_web (consL (var 0) nilL))))
def F_is_steady : FnP := runP 1 1 D_is_steady
theorem b_is_steady {cdv : Value} {A : Around} {outer : List Env} {s : Shared} {H : Hp} {E : XK} {f : Addr} (T : Tx K mg) (C_need_web : CalP P w K mg base "need_web" 5 ["value"] F_need_web) (C_is_steady_web : CalP P w K mg base "is_steady_web" 3 ["web"] F_is_steady_web) (hr : Room 5 (A.deeper (envOfC "is_steady" (defScope s_is_steady) s.heap.objs.size f cdv))) :
    QB (cxOf (L2N.CX P w) P w K mg base N_is_steady "is_steady" (defScope s_is_steady) f cdv A outer s H E) (WE0 E) (defBody s_is_steady) D_is_steady :=
  (b_cons (s_expr (q_p C_need_web hr (by omega) (L2N.takes_of rfl rfl rfl rfl) (a_cons (v_ 0) a_nil)))
  (b_one (s_ret (q_p C_is_steady_web hr (by omega) (L2N.takes_of rfl rfl rfl rfl) (a_cons (v_ 0) a_nil)))))
theorem ok_is_steady {f : Addr} {fd : FuncData} (T : Tx K mg) (C_need_web : CalP P w K mg base "need_web" 5 ["value"] F_need_web) (C_is_steady_web : CalP P w K mg base "is_steady_web" 3 ["web"] F_is_steady_web) (F : FnD K "is_steady" s_is_steady f fd) (hm : mg "is_steady" = some (.ref f)) : CalP P w K mg base "is_steady" 6 ["web"] F_is_steady :=
  ⟨fn_okP F sc_is_steady fun cdv A outer s H E hr => b_is_steady T C_need_web C_is_steady_web hr, hm, F.kp, F.bindsN (fun _ _ _ _ _ _ us hl => match us, hl with | [_], _ => rfl), runP_len⟩
abbrev s_common : Stmt := top 48
abbrev N_common : List Str := ["one", "other"]
theorem sc_common : FnScope N_common ["one", "other"] (defScope s_common) := ⟨rfl, rfl, rfl, by decide +kernel, rfl, by decide +kernel, by decide +kernel⟩
def D_common : DS :=
  (seqS (whS fuel (asB (bin gtI (var 1) (cst (.int 0)))) (parS [0, 1] (consL (var 1) (consL (bin modD (var 0) (var 1)) nilL))))
  (rtS (var 0)))
def F_common : FnP := runP 2 2 D_common
theorem b_common {cdv : Value} {A : Around} {outer : List Env} {s : Shared} {H : Hp} {E : XK} {f : Addr} (T : Tx K mg)  (hr : Room 0 (A.deeper (envOfC "common" (defScope s_common) s.heap.objs.size f cdv))) :
    QB (cxOf (L2N.CX P w) P w K mg base N_common "common" (defScope s_common) f cdv A outer s H E) (WE0 E) (defBody s_common) D_common :=
  (b_cons (s_while (n := fuel) (passes_of rfl) (t_c (cGt) (v_ 1) q_int) (b_one (s_par (ps_par (i := 0) (j := 1) rfl sc_common.nd rfl rfl (by decide) rfl rfl (a_cons (v_ 1) (a_cons (q_mod (v_ 0) (v_ 1)) a_nil)) (by rfl)))))
  (b_one (s_ret (v_ 0))))
theorem ok_common {f : Addr} {fd : FuncData} (T : Tx K mg)  (F : FnD K "common" s_common f fd) (hm : mg "common" = some (.ref f)) : CalP P w K mg base "common" 1 ["one", "other"] F_common :=
  ⟨fn_okP F sc_common fun cdv A outer s H E hr => b_common T  hr, hm, F.kp, F.bindsN (fun _ _ _ _ _ _ us hl => match us, hl with | [_, _], _ => rfl), runP_len⟩
abbrev s_is_start : Stmt := top 53
abbrev N_is_start : List Str := ["value", "part"]
theorem sc_is_start : FnScope N_is_start ["value"] (defScope s_is_start) := ⟨rfl, rfl, rfl, by decide +kernel, rfl, by decide +kernel, by decide +kernel⟩
def D_is_start : DS :=
  (seqS (ifS (orB (notB (asB (isiE "tuple" (var 0)))) (orB (asB (bin neD (blt lenD (consL (var 0) nilL)) (cst (.int 2)))) (notB (asB (blt allBD (consL (frzE (lcF [1] (seqI (var 0)) (.nm 1) yes (callP F_is_integer (consL (var 1) nilL)))) nilL)))))) (rtS (cst (.bool false))) nilS)
  (rtS (andV (callP F_is_from (consL (ixE (var 0) (cst (.int 0))) (consL (cst (.int 1)) (consL (cst (.int 1000000)) nilL)))) (andV (callP F_is_from (consL (ixE (var 0) (cst (.int 1))) (consL (cst (.int 1)) (consL (cst (.int 1000000)) nilL)))) (bin eqD (callP F_common (consL (ixE (var 0) (cst (.int 0))) (consL (ixE (var 0) (cst (.int 1))) nilL))) (cst (.int 1)))))))
def F_is_start : FnP := runP 2 1 D_is_start
theorem b_is_start {cdv : Value} {A : Around} {outer : List Env} {s : Shared} {H : Hp} {E : XK} {f : Addr} (T : Tx K mg) (C_is_from : CalP P w K mg base "is_from" 2 ["value", "low", "high"] F_is_from) (C_common : CalP P w K mg base "common" 1 ["one", "other"] F_common) (C_is_integer : CalP P w K mg base "is_integer" 1 ["value"] F_is_integer) (hr : Room 2 (A.deeper (envOfC "is_start" (defScope s_is_start) s.heap.objs.size f cdv))) :
    QB (cxOf (L2N.CX P w) P w K mg base N_is_start "is_start" (defScope s_is_start) f cdv A outer s H E) (WE0 E) (defBody s_is_start) D_is_start :=
  (b_cons (s_if (t_bool (w_or (t_not (t_val (q_is T.n_isinstance T.n_tuple (by decide +kernel) (v_ 0)))) (w_or (t_c (cNe hr) (q_b bLen T.n_len (by decide +kernel) (a_cons (v_ 0) a_nil)) q_int) (w_or1 (t_not (t_val (q_b (bAll rfl) T.n_all (by decide +kernel) (a_cons (q_frz (f_lc (own := [("part", 1)]) rfl sc_is_start.nd (i_seq (v_ 0)) (blkOk_by (N := N_is_start) (sc := defScope s_is_start) (own := [("part", 1)]) (by decide +kernel)) (by decide) (fun _ _ _ _ _ => (pg_name (i := 1) sc_is_start.nd rfl (by first | exact .inl rfl | exact .inr rfl))) (fun _ _ _ _ _ => ts_nil) (fun _ _ _ _ _ => (q_p C_is_integer hr (by omega) takesN (a_cons (v_ 1) a_nil))))) a_nil)))))))) (b_one (s_ret q_bl)) b_nil)
  (b_one (s_ret (q_and (q_p C_is_from hr (by omega) (L2N.takes_of rfl rfl rfl rfl) (a_cons (q_ix (v_ 0) q_int (fun _ _ => rfl)) (a_cons q_int (a_cons (c_int T.i_MOST_TOLD) a_nil)))) (q_and (q_p C_is_from hr (by omega) (L2N.takes_of rfl rfl rfl rfl) (a_cons (q_ix (v_ 0) q_int (fun _ _ => rfl)) (a_cons q_int (a_cons (c_int T.i_MOST_TOLD) a_nil)))) (q_one (q_c (cEq hr) (q_p C_common hr (by omega) (L2N.takes_of rfl rfl rfl rfl) (a_cons (q_ix (v_ 0) q_int (fun _ _ => rfl)) (a_cons (q_ix (v_ 0) q_int (fun _ _ => rfl)) a_nil))) q_int)))))))
theorem ok_is_start {f : Addr} {fd : FuncData} (T : Tx K mg) (C_is_from : CalP P w K mg base "is_from" 2 ["value", "low", "high"] F_is_from) (C_common : CalP P w K mg base "common" 1 ["one", "other"] F_common) (C_is_integer : CalP P w K mg base "is_integer" 1 ["value"] F_is_integer) (F : FnD K "is_start" s_is_start f fd) (hm : mg "is_start" = some (.ref f)) : CalP P w K mg base "is_start" 3 ["value"] F_is_start :=
  ⟨fn_okP F sc_is_start fun cdv A outer s H E hr => b_is_start T C_is_from C_common C_is_integer hr, hm, F.kp, F.bindsN (fun _ _ _ _ _ _ us hl => match us, hl with | [_], _ => rfl), runP_len⟩
abbrev s_need_shares : Stmt := top 54
abbrev N_need_shares : List Str := ["n", "value", "one"]
theorem sc_need_shares : FnScope N_need_shares ["n", "value"] (defScope s_need_shares) := ⟨rfl, rfl, rfl, by decide +kernel, rfl, by decide +kernel, by decide +kernel⟩
def D_need_shares : DS :=
  (ifS (orB (notB (asB (isiE "tuple" (var 1)))) (orB (asB (bin neD (blt lenD (consL (var 1) nilL)) (var 0))) (notB (asB (blt allBD (consL (frzE (lcF [2] (seqI (var 1)) (.nm 2) yes (callP F_is_start (consL (var 2) nilL)))) nilL)))))) (raS "BadShares") nilS)
def F_need_shares : FnP := runP 3 2 D_need_shares
theorem b_need_shares {cdv : Value} {A : Around} {outer : List Env} {s : Shared} {H : Hp} {E : XK} {f : Addr} (T : Tx K mg) (C_is_start : CalP P w K mg base "is_start" 3 ["value"] F_is_start) (hr : Room 3 (A.deeper (envOfC "need_shares" (defScope s_need_shares) s.heap.objs.size f cdv))) :
    QB (cxOf (L2N.CX P w) P w K mg base N_need_shares "need_shares" (defScope s_need_shares) f cdv A outer s H E) (WE0 E) (defBody s_need_shares) D_need_shares :=
  (b_one (s_if (t_bool (w_or (t_not (t_val (q_is T.n_isinstance T.n_tuple (by decide +kernel) (v_ 1)))) (w_or (t_c (cNe hr) (q_b bLen T.n_len (by decide +kernel) (a_cons (v_ 1) a_nil)) (v_ 0)) (w_or1 (t_not (t_val (q_b (bAll rfl) T.n_all (by decide +kernel) (a_cons (q_frz (f_lc (own := [("one", 2)]) rfl sc_need_shares.nd (i_seq (v_ 1)) (blkOk_by (N := N_need_shares) (sc := defScope s_need_shares) (own := [("one", 2)]) (by decide +kernel)) (by decide) (fun _ _ _ _ _ => (pg_name (i := 2) sc_need_shares.nd rfl (by first | exact .inl rfl | exact .inr rfl))) (fun _ _ _ _ _ => ts_nil) (fun _ _ _ _ _ => (q_p C_is_start hr (by omega) takesN (a_cons (v_ 2) a_nil))))) a_nil)))))))) (b_one (s_ra rfl (L2N.takes_of rfl rfl rfl rfl) T.e_BadShares)) b_nil))
theorem ok_need_shares {f : Addr} {fd : FuncData} (T : Tx K mg) (C_is_start : CalP P w K mg base "is_start" 3 ["value"] F_is_start) (F : FnD K "need_shares" s_need_shares f fd) (hm : mg "need_shares" = some (.ref f)) : CalP P w K mg base "need_shares" 4 ["n", "value"] F_need_shares :=
  ⟨fn_okP F sc_need_shares fun cdv A outer s H E hr => b_need_shares T C_is_start hr, hm, F.kp, F.bindsN (fun _ _ _ _ _ _ us hl => match us, hl with | [_, _], _ => rfl), runP_len⟩
abbrev s_share : Stmt := top 49
abbrev N_share : List Str := ["top", "bottom", "part"]
theorem sc_share : FnScope N_share ["top", "bottom"] (defScope s_share) := ⟨rfl, rfl, rfl, by decide +kernel, rfl, by decide +kernel, by decide +kernel⟩
def D_share : DS :=
  (seqS (asgS 2 (callP F_common (consL (blt absD (consL (var 0) nilL)) (consL (var 1) nilL))))
  (rtS (tupE (consL (bin divD (var 0) (var 2)) (consL (bin divD (var 1) (var 2)) nilL)))))
def F_share : FnP := runP 3 2 D_share
theorem b_share {cdv : Value} {A : Around} {outer : List Env} {s : Shared} {H : Hp} {E : XK} {f : Addr} (T : Tx K mg) (C_common : CalP P w K mg base "common" 1 ["one", "other"] F_common) (hr : Room 1 (A.deeper (envOfC "share" (defScope s_share) s.heap.objs.size f cdv))) :
    QB (cxOf (L2N.CX P w) P w K mg base N_share "share" (defScope s_share) f cdv A outer s H E) (WE0 E) (defBody s_share) D_share :=
  (b_cons (s_set (ps_set (i := 2) sc_share.nd rfl (by first | exact .inl rfl | exact .inr rfl) (q_p C_common hr (by omega) (L2N.takes_of rfl rfl rfl rfl) (a_cons (q_b bAbs T.n_abs (by decide +kernel) (a_cons (v_ 0) a_nil)) (a_cons (v_ 1) a_nil)))))
  (b_one (s_ret (q_tup (a_cons (q_div (v_ 0) (v_ 2)) (a_cons (q_div (v_ 1) (v_ 2)) a_nil))))))
theorem ok_share {f : Addr} {fd : FuncData} (T : Tx K mg) (C_common : CalP P w K mg base "common" 1 ["one", "other"] F_common) (F : FnD K "share" s_share f fd) (hm : mg "share" = some (.ref f)) : CalP P w K mg base "share" 2 ["top", "bottom"] F_share :=
  ⟨fn_okP F sc_share fun cdv A outer s H E hr => b_share T C_common hr, hm, F.kp, F.bindsN (fun _ _ _ _ _ _ us hl => match us, hl with | [_, _], _ => rfl), runP_len⟩
abbrev s_times_shares : Stmt := top 51
abbrev N_times_shares : List Str := ["one", "other"]
theorem sc_times_shares : FnScope N_times_shares ["one", "other"] (defScope s_times_shares) := ⟨rfl, rfl, rfl, by decide +kernel, rfl, by decide +kernel, by decide +kernel⟩
def D_times_shares : DS :=
  (rtS (callP F_share (consL (bin mulD (ixE (var 0) (cst (.int 0))) (ixE (var 1) (cst (.int 0)))) (consL (bin mulD (ixE (var 0) (cst (.int 1))) (ixE (var 1) (cst (.int 1)))) nilL))))
def F_times_shares : FnP := runP 2 2 D_times_shares
theorem b_times_shares {cdv : Value} {A : Around} {outer : List Env} {s : Shared} {H : Hp} {E : XK} {f : Addr} (T : Tx K mg) (C_share : CalP P w K mg base "share" 2 ["top", "bottom"] F_share) (hr : Room 2 (A.deeper (envOfC "times_shares" (defScope s_times_shares) s.heap.objs.size f cdv))) :
    QB (cxOf (L2N.CX P w) P w K mg base N_times_shares "times_shares" (defScope s_times_shares) f cdv A outer s H E) (WE0 E) (defBody s_times_shares) D_times_shares :=
  (b_one (s_ret (q_p C_share hr (by omega) (L2N.takes_of rfl rfl rfl rfl) (a_cons (q_mul (q_ix (v_ 0) q_int (fun _ _ => rfl)) (q_ix (v_ 1) q_int (fun _ _ => rfl))) (a_cons (q_mul (q_ix (v_ 0) q_int (fun _ _ => rfl)) (q_ix (v_ 1) q_int (fun _ _ => rfl))) a_nil)))))
theorem ok_times_shares {f : Addr} {fd : FuncData} (T : Tx K mg) (C_share : CalP P w K mg base "share" 2 ["top", "bottom"] F_share) (F : FnD K "times_shares" s_times_shares f fd) (hm : mg "times_shares" = some (.ref f)) : CalP P w K mg base "times_shares" 3 ["one", "other"] F_times_shares :=
  ⟨fn_okP F sc_times_shares fun cdv A outer s H E hr => b_times_shares T C_share hr, hm, F.kp, F.bindsN (fun _ _ _ _ _ _ us hl => match us, hl with | [_, _], _ => rfl), runP_len⟩
abbrev s_need_short : Stmt := top 55
abbrev N_need_short : List Str := ["one"]
theorem sc_need_short : FnScope N_need_short ["one"] (defScope s_need_short) := ⟨rfl, rfl, rfl, by decide +kernel, rfl, by decide +kernel, by decide +kernel⟩
def D_need_short : DS :=
  (ifS (asB (bin gtI (blt maxD2 (consL (blt absD (consL (ixE (var 0) (cst (.int 0))) nilL)) (consL (ixE (var 0) (cst (.int 1))) nilL))) (cst (.int 1000000000000000000000000000000000000000000000000000000000000000000000000000000000000000000000000000000000000000000000000000000000000000000000000000000000000000000000000000000000000000000000000000000000000000000000000000000000000000000000000000000000000000000000000000000000000000000000000000000000000)))) (raS "TooGreat") nilS)
def F_need_short : FnP := runP 1 1 D_need_short
theorem b_need_short {cdv : Value} {A : Around} {outer : List Env} {s : Shared} {H : Hp} {E : XK} {f : Addr} (T : Tx K mg)  (hr : Room 0 (A.deeper (envOfC "need_short" (defScope s_need_short) s.heap.objs.size f cdv))) :
    QB (cxOf (L2N.CX P w) P w K mg base N_need_short "need_short" (defScope s_need_short) f cdv A outer s H E) (WE0 E) (defBody s_need_short) D_need_short :=
  (b_one (s_if (t_c (cGt) (q_b (bMax2 rfl) T.n_max (by decide +kernel) (a_cons (q_b bAbs T.n_abs (by decide +kernel) (a_cons (q_ix (v_ 0) q_int (fun _ _ => rfl)) a_nil)) (a_cons (q_ix (v_ 0) q_int (fun _ _ => rfl)) a_nil))) (c_int T.i_MOST_VALUE)) (b_one (s_ra rfl (L2N.takes_of rfl rfl rfl rfl) T.e_TooGreat)) b_nil))
theorem ok_need_short {f : Addr} {fd : FuncData} (T : Tx K mg)  (F : FnD K "need_short" s_need_short f fd) (hm : mg "need_short" = some (.ref f)) : CalP P w K mg base "need_short" 1 ["one"] F_need_short :=
  ⟨fn_okP F sc_need_short fun cdv A outer s H E hr => b_need_short T  hr, hm, F.kp, F.bindsN (fun _ _ _ _ _ _ us hl => match us, hl with | [_], _ => rfl), runP_len⟩
abbrev s_product_of_shares : Stmt := top 60
abbrev N_product_of_shares : List Str := ["shares", "powers", "found", "one", "power", "turn"]
theorem sc_product_of_shares : FnScope N_product_of_shares ["shares", "powers"] (defScope s_product_of_shares) := ⟨rfl, rfl, rfl, by decide +kernel, rfl, by decide +kernel, by decide +kernel⟩
def D_product_of_shares : DS :=
  (seqS (asgS 2 (cst (.tuple (List.map PyData.int [1, 1]))))
  (seqS (forS (zipJ (consL (var 0) (consL (var 1) nilL))) (.tp [3, 4]) (forS (rng1 (consL (var 4) nilL)) (.nm 5) (seqS (asgS 2 (callP F_times_shares (consL (var 2) (consL (var 3) nilL))))
  (exS (callP F_need_short (consL (var 2) nilL))))))
  (rtS (var 2))))
def F_product_of_shares : FnP := runP 6 2 D_product_of_shares
theorem b_product_of_shares {cdv : Value} {A : Around} {outer : List Env} {s : Shared} {H : Hp} {E : XK} {f : Addr} (T : Tx K mg) (C_times_shares : CalP P w K mg base "times_shares" 3 ["one", "other"] F_times_shares) (C_need_short : CalP P w K mg base "need_short" 1 ["one"] F_need_short) (hr : Room 3 (A.deeper (envOfC "product_of_shares" (defScope s_product_of_shares) s.heap.objs.size f cdv))) :
    QB (cxOf (L2N.CX P w) P w K mg base N_product_of_shares "product_of_shares" (defScope s_product_of_shares) f cdv A outer s H E) (WE0 E) (defBody s_product_of_shares) D_product_of_shares :=
  (b_cons (s_set (ps_set (i := 2) sc_product_of_shares.nd rfl (by first | exact .inl rfl | exact .inr rfl) (c_tup T.t_WHOLE)))
  (b_cons (s_for (passes_of rfl) rfl (i_zipJ (by rfl) T.n_zip (a_cons (v_ 0) (a_cons (v_ 1) a_nil))) (pg_tup rfl (pgs_cons (pg_name (i := 3) sc_product_of_shares.nd rfl (by first | exact .inl rfl | exact .inr rfl)) (pgs_cons (pg_name (i := 4) sc_product_of_shares.nd rfl (by first | exact .inl rfl | exact .inr rfl)) pgs_nil))) (b_one (s_for (passes_of rfl) rfl (i_rng1 (by rfl) T.n_range (a_cons (v_ 4) a_nil)) (pg_name (i := 5) sc_product_of_shares.nd rfl (by first | exact .inl rfl | exact .inr rfl)) (b_cons (s_set (ps_set (i := 2) sc_product_of_shares.nd rfl (by first | exact .inl rfl | exact .inr rfl) (q_p C_times_shares hr (by omega) (L2N.takes_of rfl rfl rfl rfl) (a_cons (v_ 2) (a_cons (v_ 3) a_nil)))))
  (b_one (s_expr (q_p C_need_short hr (by omega) (L2N.takes_of rfl rfl rfl rfl) (a_cons (v_ 2) a_nil))))))))
  (b_one (s_ret (v_ 2)))))
theorem ok_product_of_shares {f : Addr} {fd : FuncData} (T : Tx K mg) (C_times_shares : CalP P w K mg base "times_shares" 3 ["one", "other"] F_times_shares) (C_need_short : CalP P w K mg base "need_short" 1 ["one"] F_need_short) (F : FnD K "product_of_shares" s_product_of_shares f fd) (hm : mg "product_of_shares" = some (.ref f)) : CalP P w K mg base "product_of_shares" 4 ["shares", "powers"] F_product_of_shares :=
  ⟨fn_okP F sc_product_of_shares fun cdv A outer s H E hr => b_product_of_shares T C_times_shares C_need_short hr, hm, F.kp, F.bindsN (fun _ _ _ _ _ _ us hl => match us, hl with | [_, _], _ => rfl), runP_len⟩
abbrev s_need_small : Stmt := top 22
abbrev N_need_small : List Str := ["table", "line", "many"]
theorem sc_need_small : FnScope N_need_small ["table"] (defScope s_need_small) := ⟨rfl, rfl, rfl, by decide +kernel, rfl, by decide +kernel, by decide +kernel⟩
def D_need_small : DS :=
  (ifS (asB (blt anyBD (consL (frzE (lc2F [1, 2] [2] (seqI (var 0)) (.nm 1) yes (seqI (var 1)) (.nm 2) yes (bin gtI (blt absD (consL (var 2) nilL)) (cst (.int 1000))))) nilL))) (raS "TooGreat") nilS)
def F_need_small : FnP := runP 3 1 D_need_small
theorem b_need_small {cdv : Value} {A : Around} {outer : List Env} {s : Shared} {H : Hp} {E : XK} {f : Addr} (T : Tx K mg)  (hr : Room 0 (A.deeper (envOfC "need_small" (defScope s_need_small) s.heap.objs.size f cdv))) :
    QB (cxOf (L2N.CX P w) P w K mg base N_need_small "need_small" (defScope s_need_small) f cdv A outer s H E) (WE0 E) (defBody s_need_small) D_need_small :=
  (b_one (s_if (t_val (q_b (bAny rfl) T.n_any (by decide +kernel) (a_cons (q_frz (f_lc2 (own := [("line", 1), ("many", 2)]) (vs1 := [2]) rfl sc_need_small.nd (i_seq (v_ 0)) (blkOk_by (N := N_need_small) (sc := defScope s_need_small) (own := [("line", 1), ("many", 2)]) (by decide +kernel)) (by decide) (by decide) (by decide) (fun _ _ _ _ _ => (pg_name (i := 1) sc_need_small.nd rfl (by first | exact .inl rfl | exact .inr rfl))) (fun _ _ _ _ _ => ts_nil) (fun _ _ _ _ _ => (i_seq (v_ 1))) (fun _ _ _ _ _ => (pg_name (i := 2) sc_need_small.nd rfl (by first | exact .inl rfl | exact .inr rfl))) (fun _ _ _ _ _ => ts_nil) (fun _ _ _ _ _ => (q_c (cGt) (q_b bAbs T.n_abs (by decide +kernel) (a_cons (v_ 2) a_nil)) (c_int T.i_MOST_ARROWS))))) a_nil))) (b_one (s_ra rfl (L2N.takes_of rfl rfl rfl rfl) T.e_TooGreat)) b_nil))
theorem ok_need_small {f : Addr} {fd : FuncData} (T : Tx K mg)  (F : FnD K "need_small" s_need_small f fd) (hm : mg "need_small" = some (.ref f)) : CalP P w K mg base "need_small" 1 ["table"] F_need_small :=
  ⟨fn_okP F sc_need_small fun cdv A outer s H E hr => b_need_small T  hr, hm, F.kp, F.bindsN (fun _ _ _ _ _ _ us hl => match us, hl with | [_], _ => rfl), runP_len⟩
abbrev s_turn_of : Stmt := top 23
abbrev N_turn_of : List Str := ["web", "x", "found"]
theorem sc_turn_of : FnScope N_turn_of ["web", "x"] (defScope s_turn_of) := ⟨rfl, rfl, rfl, by decide +kernel, rfl, by decide +kernel, by decide +kernel⟩
def D_turn_of : DS :=
  (seqS (asgS 2 (callP F_behind_turn (consL (var 0) (consL (var 1) nilL))))
  (seqS (exS (callP F_need_small (consL (var 2) nilL)))
  (rtS (var 2))))
def F_turn_of : FnP := runP 3 2 D_turn_of
theorem b_turn_of {cdv : Value} {A : Around} {outer : List Env} {s : Shared} {H : Hp} {E : XK} {f : Addr} (T : Tx K mg) (C_behind_turn : CalP P w K mg base "behind_turn" 2 ["web", "x"] F_behind_turn) (C_need_small : CalP P w K mg base "need_small" 1 ["table"] F_need_small) (hr : Room 2 (A.deeper (envOfC "turn_of" (defScope s_turn_of) s.heap.objs.size f cdv))) :
    QB (cxOf (L2N.CX P w) P w K mg base N_turn_of "turn_of" (defScope s_turn_of) f cdv A outer s H E) (WE0 E) (defBody s_turn_of) D_turn_of :=
  (b_cons (s_set (ps_set (i := 2) sc_turn_of.nd rfl (by first | exact .inl rfl | exact .inr rfl) (q_p C_behind_turn hr (by omega) (L2N.takes_of rfl rfl rfl rfl) (a_cons (v_ 0) (a_cons (v_ 1) a_nil)))))
  (b_cons (s_expr (q_p C_need_small hr (by omega) (L2N.takes_of rfl rfl rfl rfl) (a_cons (v_ 2) a_nil)))
  (b_one (s_ret (v_ 2)))))
theorem ok_turn_of {f : Addr} {fd : FuncData} (T : Tx K mg) (C_behind_turn : CalP P w K mg base "behind_turn" 2 ["web", "x"] F_behind_turn) (C_need_small : CalP P w K mg base "need_small" 1 ["table"] F_need_small) (F : FnD K "turn_of" s_turn_of f fd) (hm : mg "turn_of" = some (.ref f)) : CalP P w K mg base "turn_of" 3 ["web", "x"] F_turn_of :=
  ⟨fn_okP F sc_turn_of fun cdv A outer s H E hr => b_turn_of T C_behind_turn C_need_small hr, hm, F.kp, F.bindsN (fun _ _ _ _ _ _ us hl => match us, hl with | [_, _], _ => rfl), runP_len⟩
abbrev s_plus_shares : Stmt := top 50
abbrev N_plus_shares : List Str := ["one", "other"]
theorem sc_plus_shares : FnScope N_plus_shares ["one", "other"] (defScope s_plus_shares) := ⟨rfl, rfl, rfl, by decide +kernel, rfl, by decide +kernel, by decide +kernel⟩
def D_plus_shares : DS :=
  (rtS (callP F_share (consL (bin addD (bin mulD (ixE (var 0) (cst (.int 0))) (ixE (var 1) (cst (.int 1)))) (bin mulD (ixE (var 1) (cst (.int 0))) (ixE (var 0) (cst (.int 1))))) (consL (bin mulD (ixE (var 0) (cst (.int 1))) (ixE (var 1) (cst (.int 1)))) nilL))))
def F_plus_shares : FnP := runP 2 2 D_plus_shares
theorem b_plus_shares {cdv : Value} {A : Around} {outer : List Env} {s : Shared} {H : Hp} {E : XK} {f : Addr} (T : Tx K mg) (C_share : CalP P w K mg base "share" 2 ["top", "bottom"] F_share) (hr : Room 2 (A.deeper (envOfC "plus_shares" (defScope s_plus_shares) s.heap.objs.size f cdv))) :
    QB (cxOf (L2N.CX P w) P w K mg base N_plus_shares "plus_shares" (defScope s_plus_shares) f cdv A outer s H E) (WE0 E) (defBody s_plus_shares) D_plus_shares :=
  (b_one (s_ret (q_p C_share hr (by omega) (L2N.takes_of rfl rfl rfl rfl) (a_cons (q_add (q_mul (q_ix (v_ 0) q_int (fun _ _ => rfl)) (q_ix (v_ 1) q_int (fun _ _ => rfl))) (q_mul (q_ix (v_ 1) q_int (fun _ _ => rfl)) (q_ix (v_ 0) q_int (fun _ _ => rfl)))) (a_cons (q_mul (q_ix (v_ 0) q_int (fun _ _ => rfl)) (q_ix (v_ 1) q_int (fun _ _ => rfl))) a_nil)))))
theorem ok_plus_shares {f : Addr} {fd : FuncData} (T : Tx K mg) (C_share : CalP P w K mg base "share" 2 ["top", "bottom"] F_share) (F : FnD K "plus_shares" s_plus_shares f fd) (hm : mg "plus_shares" = some (.ref f)) : CalP P w K mg base "plus_shares" 3 ["one", "other"] F_plus_shares :=
  ⟨fn_okP F sc_plus_shares fun cdv A outer s H E hr => b_plus_shares T C_share hr, hm, F.kp, F.bindsN (fun _ _ _ _ _ _ us hl => match us, hl with | [_, _], _ => rfl), runP_len⟩
abbrev s_turned_share : Stmt := top 52
abbrev N_turned_share : List Str := ["one"]
theorem sc_turned_share : FnScope N_turned_share ["one"] (defScope s_turned_share) := ⟨rfl, rfl, rfl, by decide +kernel, rfl, by decide +kernel, by decide +kernel⟩
def D_turned_share : DS :=
  (rtS (tupE (consL (ixE (var 0) (cst (.int 1))) (consL (ixE (var 0) (cst (.int 0))) nilL))))
def F_turned_share : FnP := runP 1 1 D_turned_share
theorem b_turned_share {cdv : Value} {A : Around} {outer : List Env} {s : Shared} {H : Hp} {E : XK} {f : Addr} (T : Tx K mg)  (hr : Room 0 (A.deeper (envOfC "turned_share" (defScope s_turned_share) s.heap.objs.size f cdv))) :
    QB (cxOf (L2N.CX P w) P w K mg base N_turned_share "turned_share" (defScope s_turned_share) f cdv A outer s H E) (WE0 E) (defBody s_turned_share) D_turned_share :=
  (b_one (s_ret (q_tup (a_cons (q_ix (v_ 0) q_int (fun _ _ => rfl)) (a_cons (q_ix (v_ 0) q_int (fun _ _ => rfl)) a_nil)))))
theorem ok_turned_share {f : Addr} {fd : FuncData} (T : Tx K mg)  (F : FnD K "turned_share" s_turned_share f fd) (hm : mg "turned_share" = some (.ref f)) : CalP P w K mg base "turned_share" 1 ["one"] F_turned_share :=
  ⟨fn_okP F sc_turned_share fun cdv A outer s H E hr => b_turned_share T  hr, hm, F.kp, F.bindsN (fun _ _ _ _ _ _ us hl => match us, hl with | [_], _ => rfl), runP_len⟩
abbrev s_values_behind : Stmt := top 61
abbrev N_values_behind : List Str := ["web", "row", "shares", "found", "n", "x", "into", "out", "y"]
theorem sc_values_behind : FnScope N_values_behind ["web", "row", "shares"] (defScope s_values_behind) := ⟨rfl, rfl, rfl, by decide +kernel, rfl, by decide +kernel, by decide +kernel⟩
def D_values_behind : DS :=
  (seqS (parS [3, 4] (consL (ownE (lstF (var 2))) (consL (blt lenD (consL (var 0) nilL)) nilL)))
  (seqS (forS (seqI (var 1)) (.nm 5) (seqS (asgS 6 (callQ F_product_of_shares (consL (var 3) (consL (frzE (lcF [8] (rng1 (consL (var 4) nilL)) (.nm 8) yes (blt maxD2 (consL (cst (.int 0)) (consL (ixE (ixE (var 0) (var 8)) (var 5)) nilL))))) nilL))))
  (seqS (asgS 7 (callQ F_product_of_shares (consL (var 3) (consL (frzE (lcF [8] (rng1 (consL (var 4) nilL)) (.nm 8) yes (blt maxD2 (consL (cst (.int 0)) (consL (ixE (ixE (var 0) (var 5)) (var 8)) nilL))))) nilL))))
  (seqS (putS (callP F_times_shares (consL (callP F_plus_shares (consL (var 6) (consL (var 7) nilL))) (consL (callP F_turned_share (consL (ixE (var 3) (var 5)) nilL)) nilL))) (var 3) (var 5))
  (seqS (exS (callP F_need_short (consL (ixE (var 3) (var 5)) nilL)))
  (asgS 0 (callP F_turn_of (consL (var 0) (consL (var 5) nilL)))))))))
  (rtS (var 3))))
def F_values_behind : FnP := runP 9 3 D_values_behind
theorem b_values_behind {cdv : Value} {A : Around} {outer : List Env} {s : Shared} {H : Hp} {E : XK} {f : Addr} (T : Tx K mg) (C_product_of_shares : CalP P w K mg base "product_of_shares" 4 ["shares", "powers"] F_product_of_shares) (C_times_shares : CalP P w K mg base "times_shares" 3 ["one", "other"] F_times_shares) (C_need_short : CalP P w K mg base "need_short" 1 ["one"] F_need_short) (C_turn_of : CalP P w K mg base "turn_of" 3 ["web", "x"] F_turn_of) (C_plus_shares : CalP P w K mg base "plus_shares" 3 ["one", "other"] F_plus_shares) (C_turned_share : CalP P w K mg base "turned_share" 1 ["one"] F_turned_share) (hr : Room 4 (A.deeper (envOfC "values_behind" (defScope s_values_behind) s.heap.objs.size f cdv))) :
    QB (cxOf (L2N.CX P w) P w K mg base N_values_behind "values_behind" (defScope s_values_behind) f cdv A outer s H E) (WE0 E) (defBody s_values_behind) D_values_behind :=
  (b_cons (s_par (ps_par (i := 3) (j := 4) rfl sc_values_behind.nd rfl rfl (by decide) rfl rfl (a_cons (q_own (f_list (pe_callTy call_list_of (by rfl) T.n_list (by decide +kernel) (pa_cons (v_ 2) pa_nil)))) (a_cons (q_b bLen T.n_len (by decide +kernel) (a_cons (v_ 0) a_nil)) a_nil)) (by rfl)))
  (b_cons (s_for (passes_of rfl) rfl (i_seq (v_ 1)) (pg_name (i := 5) sc_values_behind.nd rfl (by first | exact .inl rfl | exact .inr rfl)) (b_cons (s_set (ps_set (i := 6) sc_values_behind.nd rfl (by first | exact .inl rfl | exact .inr rfl) (q_l C_product_of_shares hr (by omega) (L2N.takes_of rfl rfl rfl rfl) (a_cons (v_ 3) (a_cons (q_frz (f_lc (own := [("y", 8)]) rfl sc_values_behind.nd (i_rng1 (by rfl) T.n_range (a_cons (v_ 4) a_nil)) (blkOk_by (N := N_values_behind) (sc := defScope s_values_behind) (own := [("y", 8)]) (by decide +kernel)) (by decide) (fun _ _ _ _ _ => (pg_name (i := 8) sc_values_behind.nd rfl (by first | exact .inl rfl | exact .inr rfl))) (fun _ _ _ _ _ => ts_nil) (fun _ _ _ _ _ => (q_b (bMax2 rfl) T.n_max (by decide +kernel) (a_cons q_int (a_cons (q_ix (q_ix (v_ 0) (v_ 8) (fun _ _ => rfl)) (v_ 5) (fun _ _ => rfl)) a_nil)))))) a_nil)))))
  (b_cons (s_set (ps_set (i := 7) sc_values_behind.nd rfl (by first | exact .inl rfl | exact .inr rfl) (q_l C_product_of_shares hr (by omega) (L2N.takes_of rfl rfl rfl rfl) (a_cons (v_ 3) (a_cons (q_frz (f_lc (own := [("y", 8)]) rfl sc_values_behind.nd (i_rng1 (by rfl) T.n_range (a_cons (v_ 4) a_nil)) (blkOk_by (N := N_values_behind) (sc := defScope s_values_behind) (own := [("y", 8)]) (by decide +kernel)) (by decide) (fun _ _ _ _ _ => (pg_name (i := 8) sc_values_behind.nd rfl (by first | exact .inl rfl | exact .inr rfl))) (fun _ _ _ _ _ => ts_nil) (fun _ _ _ _ _ => (q_b (bMax2 rfl) T.n_max (by decide +kernel) (a_cons q_int (a_cons (q_ix (q_ix (v_ 0) (v_ 5) (fun _ _ => rfl)) (v_ 8) (fun _ _ => rfl)) a_nil)))))) a_nil)))))
  (b_cons (s_put (ps_asg (q_p C_times_shares hr (by omega) (L2N.takes_of rfl rfl rfl rfl) (a_cons (q_p C_plus_shares hr (by omega) (L2N.takes_of rfl rfl rfl rfl) (a_cons (v_ 6) (a_cons (v_ 7) a_nil))) (a_cons (q_p C_turned_share hr (by omega) (L2N.takes_of rfl rfl rfl rfl) (a_cons (q_ix (v_ 3) (v_ 5) (fun _ _ => rfl)) a_nil)) a_nil))) (pg_sub (v_ 3) (v_ 5) set_list)))
  (b_cons (s_expr (q_p C_need_short hr (by omega) (L2N.takes_of rfl rfl rfl rfl) (a_cons (q_ix (v_ 3) (v_ 5) (fun _ _ => rfl)) a_nil)))
  (b_one (s_set (ps_set (i := 0) sc_values_behind.nd rfl (by first | exact .inl rfl | exact .inr rfl) (q_p C_turn_of hr (by omega) (L2N.takes_of rfl rfl rfl rfl) (a_cons (v_ 0) (a_cons (v_ 5) a_nil)))))))))))
  (b_one (s_ret (v_ 3)))))
theorem ok_values_behind {f : Addr} {fd : FuncData} (T : Tx K mg) (C_product_of_shares : CalP P w K mg base "product_of_shares" 4 ["shares", "powers"] F_product_of_shares) (C_times_shares : CalP P w K mg base "times_shares" 3 ["one", "other"] F_times_shares) (C_need_short : CalP P w K mg base "need_short" 1 ["one"] F_need_short) (C_turn_of : CalP P w K mg base "turn_of" 3 ["web", "x"] F_turn_of) (C_plus_shares : CalP P w K mg base "plus_shares" 3 ["one", "other"] F_plus_shares) (C_turned_share : CalP P w K mg base "turned_share" 1 ["one"] F_turned_share) (F : FnD K "values_behind" s_values_behind f fd) (hm : mg "values_behind" = some (.ref f)) : CalP P w K mg base "values_behind" 5 ["web", "row", "shares"] F_values_behind :=
  ⟨fn_okP F sc_values_behind fun cdv A outer s H E hr => b_values_behind T C_product_of_shares C_times_shares C_need_short C_turn_of C_plus_shares C_turned_share hr, hm, F.kp, F.bindsN (fun _ _ _ _ _ _ us hl => match us, hl with | [_, _, _], _ => rfl), runP_len⟩
abbrev s_steady_row : Stmt := top 77
abbrev N_steady_row : List Str := ["web", "shares", "many", "n", "found", "at"]
theorem sc_steady_row : FnScope N_steady_row ["web", "shares", "many"] (defScope s_steady_row) := ⟨rfl, rfl, rfl, by decide +kernel, rfl, by decide +kernel, by decide +kernel⟩
def D_steady_row : DS :=
  (seqS (exS (callP F_need_web (consL (var 0) nilL)))
  (seqS (ifS (notB (asB (callP F_is_steady_web (consL (var 0) nilL)))) (raS "NotSteady") nilS)
  (seqS (exS (callP F_need_shares (consL (blt lenD (consL (var 0) nilL)) (consL (var 1) nilL))))
  (seqS (ifS (notB (asB (callP F_is_from (consL (var 2) (consL (cst (.int 0)) (consL (cst (.int 60)) nilL)))))) (raS "BadTimes") nilS)
  (seqS (parS [3, 4] (consL (blt lenD (consL (var 0) nilL)) (consL (ownE (lstF (var 1))) nilL)))
  (seqS (forS (rng1 (consL (bin subD (var 2) (var 3)) nilL)) (.nm 5) (exS (metE appM (var 4) (consL (ixE (callP F_values_behind (consL (var 0) (consL (tupE (consL (cst (.int 0)) nilL)) (consL (slE (var 4) (someO (var 5)) (someO (bin addD (var 5) (var 3)))) nilL)))) (cst (.int 0))) nilL))))
  (rtS (blt tupD (consL (slE (var 4) noO (someO (var 2))) nilL)))))))))
def F_steady_row : FnP := runP 6 3 D_steady_row
theorem b_steady_row {cdv : Value} {A : Around} {outer : List Env} {s : Shared} {H : Hp} {E : XK} {f : Addr} (T : Tx K mg) (C_need_web : CalP P w K mg base "need_web" 5 ["value"] F_need_web) (C_need_shares : CalP P w K mg base "need_shares" 4 ["n", "value"] F_need_shares) (C_is_steady_web : CalP P w K mg base "is_steady_web" 3 ["web"] F_is_steady_web) (C_is_from : CalP P w K mg base "is_from" 2 ["value", "low", "high"] F_is_from) (C_values_behind : CalP P w K mg base "values_behind" 5 ["web", "row", "shares"] F_values_behind) (hr : Room 5 (A.deeper (envOfC "steady_row" (defScope s_steady_row) s.heap.objs.size f cdv))) :
    QB (cxOf (L2N.CX P w) P w K mg base N_steady_row "steady_row" (defScope s_steady_row) f cdv A outer s H E) (WE0 E) (defBody s_steady_row) D_steady_row :=
  (b_cons (s_expr (q_p C_need_web hr (by omega) (L2N.takes_of rfl rfl rfl rfl) (a_cons (v_ 0) a_nil)))
  (b_cons (s_if (t_not (t_val (q_p C_is_steady_web hr (by omega) (L2N.takes_of rfl rfl rfl rfl) (a_cons (v_ 0) a_nil)))) (b_one (s_ra rfl (L2N.takes_of rfl rfl rfl rfl) T.e_NotSteady)) b_nil)
  (b_cons (s_expr (q_p C_need_shares hr (by omega) (L2N.takes_of rfl rfl rfl rfl) (a_cons (q_b bLen T.n_len (by decide +kernel) (a_cons (v_ 0) a_nil)) (a_cons (v_ 1) a_nil))))
  (b_cons (s_if (t_not (t_val (q_p C_is_from hr (by omega) (L2N.takes_of rfl rfl rfl rfl) (a_cons (v_ 2) (a_cons q_int (a_cons (c_int T.i_MOST_STEPS) a_nil)))))) (b_one (s_ra rfl (L2N.takes_of rfl rfl rfl rfl) T.e_BadTimes)) b_nil)
  (b_cons (s_par (ps_par (i := 3) (j := 4) rfl sc_steady_row.nd rfl rfl (by decide) rfl rfl (a_cons (q_b bLen T.n_len (by decide +kernel) (a_cons (v_ 0) a_nil)) (a_cons (q_own (f_list (pe_callTy call_list_of (by rfl) T.n_list (by decide +kernel) (pa_cons (v_ 1) pa_nil)))) a_nil)) (by rfl)))
  (b_cons (s_for (passes_of rfl) rfl (i_rng1 (by rfl) T.n_range (a_cons (q_sub (v_ 2) (v_ 3)) a_nil)) (pg_name (i := 5) sc_steady_row.nd rfl (by first | exact .inl rfl | exact .inr rfl)) (b_one (s_expr (q_met m_app (pe_bm PySem.F.plainAttrs_list PySem.F.slot_list_append PySem.F.type_list_append mt_append (v_ 4) (a_cons (q_ix (q_p C_values_behind hr (by omega) (L2N.takes_of rfl rfl rfl rfl) (a_cons (v_ 0) (a_cons (q_tup (a_cons q_int a_nil)) (a_cons (q_sl (v_ 4) (o_some (v_ 5)) (o_some (q_add (v_ 5) (v_ 3)))) a_nil)))) q_int (fun _ _ => rfl)) a_nil))))))
  (b_one (s_ret (q_bt bTuple T.n_tuple (by decide +kernel) (a_cons (q_sl (v_ 4) o_none (o_some (v_ 2))) a_nil))))))))))
theorem ok_steady_row {f : Addr} {fd : FuncData} (T : Tx K mg) (C_need_web : CalP P w K mg base "need_web" 5 ["value"] F_need_web) (C_need_shares : CalP P w K mg base "need_shares" 4 ["n", "value"] F_need_shares) (C_is_steady_web : CalP P w K mg base "is_steady_web" 3 ["web"] F_is_steady_web) (C_is_from : CalP P w K mg base "is_from" 2 ["value", "low", "high"] F_is_from) (C_values_behind : CalP P w K mg base "values_behind" 5 ["web", "row", "shares"] F_values_behind) (F : FnD K "steady_row" s_steady_row f fd) (hm : mg "steady_row" = some (.ref f)) : CalP P w K mg base "steady_row" 6 ["web", "shares", "many"] F_steady_row :=
  ⟨fn_okP F sc_steady_row fun cdv A outer s H E hr => b_steady_row T C_need_web C_need_shares C_is_steady_web C_is_from C_values_behind hr, hm, F.kp, F.bindsN (fun _ _ _ _ _ _ us hl => match us, hl with | [_, _, _], _ => rfl), runP_len⟩
abbrev s_law : Stmt := top 82
abbrev N_law : List Str := ["_law_script", "_law_row", "_law_bad", "_law_calls", "_law_ring", "_law_star", "_law_fork", "_law_comb", "_law_web", "_law_two", "_law_odd", "_law_fair", "_law_call", "_law_value", "_law_many"]
theorem sc_law : FnScope N_law ["_law_script"] (defScope s_law) := ⟨rfl, rfl, rfl, by decide +kernel, rfl, by decide +kernel, by decide +kernel⟩
def LT_law : Nat → LamSpec
  | 0 => lamSpec (lamN "law") none (lstI (asgV (stAt (defBody s_law) 2)) 0)
  | 1 => lamSpec (lamN "law") (some ("_law_a", 0)) (lstI (asgV (stAt (defBody s_law) 2)) 1)
  | 2 => lamSpec (lamN "law") (some ("_law_b", 0)) (lstI (asgV (stAt (defBody s_law) 2)) 2)
  | 3 => lamSpec (lamN "law") (some ("_law_c", 0)) (lstI (asgV (stAt (defBody s_law) 2)) 3)
  | 4 => lamSpec (lamN "law") none (lstI (binR (lcIt (cmpL (ifT (stAt (defBody s_law) 3))))) 0)
  | _ => lamSpec "" none noX
def fb_law_0 : DE := (callP F_sides (consL (var 2) nilL))
def fb_law_1 : DE := (callP F_beats (consL (var 2) (consL (cst .none) nilL)))
def fb_law_2 : DE := (callP F_beat (consL (var 2) nilL))
def fb_law_3 : DE := (callP F_is_steady (consL (var 2) nilL))
def fb_law_4 : DE := (callP F_steady_row (consL (var 2) (consL (cst .none) (consL (cst .none) nilL))))
def fbs_law : List DE := [fb_law_0, fb_law_1, fb_law_2, fb_law_3, fb_law_4]
noncomputable def D_law (cl : List (Str × Addr)) : DS :=
  (seqS (asgS 1 (ownE (szF (consL (var 0) (consL (cst (.int 0)) (consL (cst (.int 7329)) (consL (cst (.int 0)) nilL)))))))
  (seqS (asgS 2 (callR F__law_pick (var 1) (consL (frzE (szF (consL (cst .none) (consL (tupE nilL) (consL (frzE (szF (consL (tupE (consL (cst (.int 0)) nilL)) nilL))) (consL (tupE (consL (tupE (consL (cst (.int 1)) nilL)) nilL)) (consL (tupE (consL (tupE (consL (cst (.int 0)) (consL (cst (.int 1)) nilL))) (consL (tupE (consL (cst (.int 1)) (consL (cst (.int 0)) nilL))) nilL))) (consL (tupE (consL (tupE (consL (cst (.int 0)) (consL (cst (.int 1001)) nilL))) (consL (tupE (consL (un negD (cst (.int 1001))) (consL (cst (.int 0)) nilL))) nilL))) (consL (bin mulD (tupE (consL (bin mulD (tupE (consL (cst (.int 0)) nilL)) (cst (.int 7))) nilL)) (cst (.int 7))) (consL (cst (.int 3)) (consL (cst (.dict [])) nilL))))))))))) nilL)))
  (seqS (asgS 3 (ownE (szF (consL (lamE "law" 0 0 (LT_law 0) cl) (consL (lamE "law" 0 1 (LT_law 1) cl) (consL (lamE "law" 0 2 (LT_law 2) cl) (consL (lamE "law" 0 3 (LT_law 3) cl) nilL)))))))
  (seqS (ifS (asB (bin neD (frzE (lamF tab__law_error "" "BadWeb" LT_law fbs_law cl (ownE (catF (var 3) (ownE (szF (consL (lamE "law" 0 4 (LT_law 4) cl) nilL))))))) (frzE (szF nilL)))) (rtS (cst (.bool false))) nilS)
  (seqS (parS [4, 5] (consL (tupE (consL (tupE (consL (cst (.int 0)) (consL (cst (.int 1)) (consL (un negD (cst (.int 1))) nilL)))) (consL (tupE (consL (un negD (cst (.int 1))) (consL (cst (.int 0)) (consL (cst (.int 1)) nilL)))) (consL (tupE (consL (cst (.int 1)) (consL (un negD (cst (.int 1))) (consL (cst (.int 0)) nilL)))) nilL)))) (consL (bin addD (tupE (consL (tupE (consL (cst (.int 0)) (consL (cst (.int 1)) (consL (cst (.int 1)) (consL (cst (.int 1)) (consL (cst (.int 1)) nilL)))))) nilL)) (blt tupD (consL (bin mulD (frzE (szF (consL (tupE (consL (un negD (cst (.int 1))) (consL (cst (.int 0)) (consL (cst (.int 0)) (consL (cst (.int 0)) (consL (cst (.int 0)) nilL)))))) nilL))) (cst (.int 4))) nilL))) nilL)))
  (seqS (asgS 6 (tupE (consL (tupE (consL (cst (.int 0)) (consL (cst (.int 1)) (consL (cst (.int 0)) (consL (cst (.int 0)) (consL (cst (.int 0)) (consL (cst (.int 1)) nilL))))))) (consL (tupE (consL (un negD (cst (.int 1))) (consL (cst (.int 0)) (consL (cst (.int 1)) (consL (cst (.int 1)) (consL (cst (.int 0)) (consL (cst (.int 0)) nilL))))))) (consL (tupE (consL (cst (.int 0)) (consL (un negD (cst (.int 1))) (consL (cst (.int 0)) (consL (cst (.int 0)) (consL (cst (.int 0)) (consL (cst (.int 0)) nilL))))))) (consL (tupE (consL (cst (.int 0)) (consL (un negD (cst (.int 1))) (consL (cst (.int 0)) (consL (cst (.int 0)) (consL (cst (.int 0)) (consL (cst (.int 0)) nilL))))))) (consL (tupE (consL (cst (.int 0)) (consL (cst (.int 0)) (consL (cst (.int 0)) (consL (cst (.int 0)) (consL (cst (.int 0)) (consL (cst (.int 1)) nilL))))))) (consL (tupE (consL (un negD (cst (.int 1))) (consL (cst (.int 0)) (consL (cst (.int 0)) (consL (cst (.int 0)) (consL (un negD (cst (.int 1))) (consL (cst (.int 0)) nilL))))))) nilL))))))))
  (seqS (asgS 7 (tupE (consL (tupE (consL (cst (.int 0)) (consL (cst (.int 1)) (consL (cst (.int 0)) (consL (cst (.int 0)) (consL (cst (.int 0)) (consL (cst (.int 0)) nilL))))))) (consL (tupE (consL (un negD (cst (.int 1))) (consL (cst (.int 0)) (consL (cst (.int 1)) (consL (cst (.int 1)) (consL (cst (.int 0)) (consL (cst (.int 0)) nilL))))))) (consL (tupE (consL (cst (.int 0)) (consL (un negD (cst (.int 1))) (consL (cst (.int 0)) (consL (cst (.int 0)) (consL (cst (.int 0)) (consL (cst (.int 0)) nilL))))))) (consL (tupE (consL (cst (.int 0)) (consL (un negD (cst (.int 1))) (consL (cst (.int 0)) (consL (cst (.int 0)) (consL (cst (.int 1)) (consL (cst (.int 1)) nilL))))))) (consL (tupE (consL (cst (.int 0)) (consL (cst (.int 0)) (consL (cst (.int 0)) (consL (un negD (cst (.int 1))) (consL (cst (.int 0)) (consL (cst (.int 0)) nilL))))))) (consL (tupE (consL (cst (.int 0)) (consL (cst (.int 0)) (consL (cst (.int 0)) (consL (un negD (cst (.int 1))) (consL (cst (.int 0)) (consL (cst (.int 0)) nilL))))))) nilL))))))))
  (seqS (asgS 8 (callR F__law_pick (var 1) (consL (frzE (szF (consL (tupE (consL (tupE (consL (cst (.int 0)) nilL)) nilL)) (consL (tupE (consL (tupE (consL (cst (.int 0)) (consL (cst (.int 0)) nilL))) (consL (tupE (consL (cst (.int 0)) (consL (cst (.int 0)) nilL))) nilL))) (consL (tupE (consL (tupE (consL (cst (.int 0)) (consL (cst (.int 2)) nilL))) (consL (tupE (consL (un negD (cst (.int 2))) (consL (cst (.int 0)) nilL))) nilL))) (consL (var 4) (consL (tupE (consL (tupE (consL (cst (.int 0)) (consL (cst (.int 1)) (consL (cst (.int 0)) nilL)))) (consL (tupE (consL (un negD (cst (.int 1))) (consL (cst (.int 0)) (consL (cst (.int 0)) nilL)))) (consL (tupE (consL (cst (.int 0)) (consL (cst (.int 0)) (consL (cst (.int 0)) nilL)))) nilL)))) nilL))))))) nilL)))
  (seqS (asgS 8 (ifE (asB (bin eqD (callR F__law_taken (var 1) (consL (cst (.int 20)) nilL)) (cst (.int 19)))) (callR F__law_pick (var 1) (consL (frzE (szF (consL (var 7) (consL (var 5) nilL)))) nilL)) (var 8)))
  (seqS (ifS (asB (bin neD (frzE (szF (consL (errE "law" 0 tab__law_error "" (callP F_sides (consL (var 8) nilL))) (consL (errE "law" 0 tab__law_error "" (callP F_beats (consL (var 8) (consL (cst .none) nilL)))) (consL (errE "law" 0 tab__law_error "" (callP F_beat (consL (var 8) nilL))) nilL))))) (bin mulD (frzE (szF (consL (cst (.str "NoTree")) nilL))) (cst (.int 3))))) (rtS (cst (.bool false))) nilS)
  (seqS (ifS (andB (asB (bin eqD (callR F__law_taken (var 1) (consL (cst (.int 20)) nilL)) (cst (.int 19)))) (asB (bin neD (errE "law" 0 tab__law_error "" (callP F_sides (consL (var 6) nilL))) (cst (.str ""))))) (rtS (cst (.bool false))) nilS)
  (seqS (asgS 9 (tupE (consL (tupE (consL (cst (.int 0)) (consL (cst (.int 1)) nilL))) (consL (tupE (consL (un negD (cst (.int 1))) (consL (cst (.int 0)) nilL))) nilL))))
  (seqS (ifS (orB (asB (bin neD (frzE (lcF [14] (seqI (frzE (szF (consL (cst .none) (consL (bin subD (cst (.int 0)) (cst (.int 1))) (consL (cst (.int 41)) (consL (cst (.bool true)) (consL (cst (.str "1")) nilL)))))))) (.nm 14) yes (errE "law" 0 tab__law_error "" (callP F_beats (consL (var 9) (consL (var 14) nilL)))))) (bin mulD (frzE (szF (consL (cst (.str "BadTimes")) nilL))) (cst (.int 5))))) (asB (bin neD (errE "law" 0 tab__law_error "" (callP F_beats (consL (var 9) (consL (cst (.int 40)) nilL)))) (cst (.str ""))))) (rtS (cst (.bool false))) nilS)
  (seqS (ifS (asB (bin neD (errE "law" 0 tab__law_error "" (callP F_steady_row (consL (tupE (consL (tupE (consL (cst (.int 0)) (consL (cst (.int 1)) (consL (cst (.int 0)) nilL)))) (consL (tupE (consL (un negD (cst (.int 1))) (consL (cst (.int 0)) (consL (cst (.int 1)) nilL)))) (consL (tupE (consL (cst (.int 0)) (consL (un negD (cst (.int 1))) (consL (cst (.int 0)) nilL)))) nilL)))) (consL (cst .none) (consL (cst .none) nilL))))) (cst (.str "NotSteady")))) (rtS (cst (.bool false))) nilS)
  (seqS (asgS 10 (frzE (szF (consL (cst .none) (consL (tupE (consL (tupE (consL (cst (.int 1)) (consL (cst (.int 1)) nilL))) nilL)) (consL (frzE (szF (consL (tupE (consL (cst (.int 1)) (consL (cst (.int 1)) nilL))) (consL (tupE (consL (cst (.int 1)) (consL (cst (.int 1)) nilL))) nilL)))) (consL (tupE (consL (tupE (consL (cst (.int 2)) (consL (cst (.int 4)) nilL))) (consL (tupE (consL (cst (.int 1)) (consL (cst (.int 1)) nilL))) nilL))) (consL (tupE (consL (tupE (consL (cst (.int 0)) (consL (cst (.int 1)) nilL))) (consL (tupE (consL (cst (.int 1)) (consL (cst (.int 1)) nilL))) nilL))) (consL (tupE (consL (tupE (consL (bin subD (cst (.int 0)) (cst (.int 1))) (consL (cst (.int 2)) nilL))) (consL (tupE (consL (cst (.int 1)) (consL (cst (.int 1)) nilL))) nilL))) (consL (bin mulD (tupE (consL (tupE (consL (cst (.int 1)) (consL (cst (.int 1)) nilL))) nilL)) (cst (.int 3))) (consL (cst (.int 3)) nilL)))))))))))
  (seqS (ifS (asB (bin neD (frzE (lcF [13] (seqI (var 10)) (.nm 13) yes (errE "law" 0 tab__law_error "" (callP F_steady_row (consL (var 9) (consL (var 13) (consL (cst .none) nilL))))))) (bin mulD (frzE (szF (consL (cst (.str "BadShares")) nilL))) (cst (.int 8))))) (rtS (cst (.bool false))) nilS)
  (seqS (asgS 11 (tupE (consL (tupE (consL (cst (.int 1)) (consL (cst (.int 2)) nilL))) (consL (tupE (consL (cst (.int 3)) (consL (cst (.int 1)) nilL))) nilL))))
  (seqS (ifS (asB (bin neD (frzE (lcF [14] (seqI (frzE (szF (consL (cst .none) (consL (bin subD (cst (.int 0)) (cst (.int 1))) (consL (cst (.int 61)) (consL (cst (.bool true)) nilL))))))) (.nm 14) yes (errE "law" 0 tab__law_error "" (callP F_steady_row (consL (var 9) (consL (var 11) (consL (var 14) nilL))))))) (bin mulD (frzE (szF (consL (cst (.str "BadTimes")) nilL))) (cst (.int 4))))) (rtS (cst (.bool false))) nilS)
  (rtS (andV (bin eqD (frzE (lcF [14] (seqI (tupE (consL (cst (.int 0)) (consL (cst (.int 1)) (consL (cst (.int 2)) (consL (cst (.int 60)) nilL)))))) (.nm 14) yes (blt lenD (consL (callP F_steady_row (consL (var 9) (consL (var 11) (consL (var 14) nilL)))) nilL)))) (frzE (szF (consL (cst (.int 0)) (consL (cst (.int 1)) (consL (cst (.int 2)) (consL (cst (.int 60)) nilL))))))) (bin eqD (slE (callP F_steady_row (consL (var 9) (consL (var 11) (consL (cst (.int 60)) nilL)))) (someO (cst (.int 5))) (someO (cst (.int 7)))) (slE (var 11) noO (someO (cst (.int 2)))))))))))))))))))))))))
theorem b_law {cdv : Value} {A : Around} {outer : List Env} {s : Shared} {H : Hp} {E : XK} {f : Addr} (T : Tx K mg) (C__law_pick : CalR P w K mg base "_law_pick" 2 ["_law_row", "_law_things"] F__law_pick) (C_sides : CalP P w K mg base "sides" 6 ["web"] F_sides) (C_beats : CalP P w K mg base "beats" 7 ["web", "many"] F_beats) (C_beat : CalP P w K mg base "beat" 6 ["web"] F_beat) (C_is_steady : CalP P w K mg base "is_steady" 6 ["web"] F_is_steady) (C__law_taken : CalR P w K mg base "_law_taken" 1 ["_law_row", "_law_many"] F__law_taken) (C_steady_row : CalP P w K mg base "steady_row" 6 ["web", "shares", "many"] F_steady_row) (G__law_error : ErrG P w K mg base "_law_error" (l__law_error K) "") (cl__law_error : ClsOk K mg (l__law_error K) tab__law_error) (hr : Room 9 (A.deeper (envOfC "law" (defScope s_law) s.heap.objs.size f cdv))) (TC : TabC (cxOf (L2N.CX P w) P w K mg base N_law "law" (defScope s_law) f cdv A outer s H E) "law") :
    QB (cxOf (L2N.CX P w) P w K mg base N_law "law" (defScope s_law) f cdv A outer s H E) (WE0 E) (defBody s_law) (D_law (cxOf (L2N.CX P w) P w K mg base N_law "law" (defScope s_law) f cdv A outer s H E).env.cells) := by
  have LB : ∀ (j : Nat) (fb : DE), fbs_law[j]? = some fb → LamB (cxOf (L2N.CX P w) P w K mg base N_law "law" (defScope s_law) f cdv A outer s H E) 7 (LT_law j) fun E => tE K mg (WE0 E) fb := by
    intro j fb e
    match j, e with
    | 0, e => cases e; exact lamB_of (df := none) rfl (lamD_by (N := N_law) (sc := defScope s_law) (df := none) (by decide +kernel)) (.no rfl (fun _ _ _ _ _ _ => rfl)) (fun A outer s H E f c' hr => (q_p C_sides hr (by omega) (takesN_of (L2.takes_of rfl rfl rfl rfl)) (a_cons (v_ 2) a_nil)))
    | 1, e => cases e; exact lamB_of (df := (some ("_law_a", 0))) rfl (lamD_by (N := N_law) (sc := defScope s_law) (df := (some ("_law_a", 0))) (by decide +kernel)) (.one "_law_a" 0 _ _ rfl (fun _ _ _ _ _ _ _ _ => ⟨_, rfl, rfl⟩)) (fun A outer s H E f c' hr => (q_p C_beats hr (by omega) (takesN_of (L2.takes_of rfl rfl rfl rfl)) (a_cons (v_ 2) (a_cons q_non a_nil))))
    | 2, e => cases e; exact lamB_of (df := (some ("_law_b", 0))) rfl (lamD_by (N := N_law) (sc := defScope s_law) (df := (some ("_law_b", 0))) (by decide +kernel)) (.one "_law_b" 0 _ _ rfl (fun _ _ _ _ _ _ _ _ => ⟨_, rfl, rfl⟩)) (fun A outer s H E f c' hr => (q_p C_beat hr (by omega) (takesN_of (L2.takes_of rfl rfl rfl rfl)) (a_cons (v_ 2) a_nil)))
    | 3, e => cases e; exact lamB_of (df := (some ("_law_c", 0))) rfl (lamD_by (N := N_law) (sc := defScope s_law) (df := (some ("_law_c", 0))) (by decide +kernel)) (.one "_law_c" 0 _ _ rfl (fun _ _ _ _ _ _ _ _ => ⟨_, rfl, rfl⟩)) (fun A outer s H E f c' hr => (q_p C_is_steady hr (by omega) (takesN_of (L2.takes_of rfl rfl rfl rfl)) (a_cons (v_ 2) a_nil)))
    | 4, e => cases e; exact lamB_of (df := none) rfl (lamD_by (N := N_law) (sc := defScope s_law) (df := none) (by decide +kernel)) (.no rfl (fun _ _ _ _ _ _ => rfl)) (fun A outer s H E f c' hr => (q_p C_steady_row hr (by omega) (takesN_of (L2.takes_of rfl rfl rfl rfl)) (a_cons (v_ 2) (a_cons q_non (a_cons q_non a_nil)))))
    | n + 5, e => cases e
  exact (b_cons (s_set (ps_set (i := 1) sc_law.nd rfl (by first | exact .inl rfl | exact .inr rfl) (q_own (f_lst (a_cons (v_ 0) (a_cons q_int (a_cons q_int (a_cons q_int a_nil))))))))
  (b_cons (s_set (ps_set (i := 2) sc_law.nd rfl (by first | exact .inl rfl | exact .inr rfl) (q_r C__law_pick hr (by omega) (L2N.takes_of rfl rfl rfl rfl) (v_ 1) (a_cons (q_frz (f_lst (a_cons q_non (a_cons (q_tup a_nil) (a_cons (q_frz (f_lst (a_cons (q_tup (a_cons q_int a_nil)) a_nil))) (a_cons (q_tup (a_cons (q_tup (a_cons q_int a_nil)) a_nil)) (a_cons (q_tup (a_cons (q_tup (a_cons q_int (a_cons q_int a_nil))) (a_cons (q_tup (a_cons q_int (a_cons q_int a_nil))) a_nil))) (a_cons (q_tup (a_cons (q_tup (a_cons q_int (a_cons q_int a_nil))) (a_cons (q_tup (a_cons (q_neg q_int) (a_cons q_int a_nil))) a_nil))) (a_cons (q_mul (q_tup (a_cons (q_mul (q_tup (a_cons q_int a_nil)) q_int) a_nil)) q_int) (a_cons q_int (a_cons q_dct0 a_nil))))))))))) a_nil))))
  (b_cons (s_set (ps_set (i := 3) sc_law.nd rfl (by first | exact .inl rfl | exact .inr rfl) (q_own (f_lst (a_cons (q_lam TC (lamD_by (N := N_law) (sc := defScope s_law) (df := none) (by decide +kernel)) (.no rfl (fun _ _ _ _ _ _ => rfl)) rfl) (a_cons (q_lam TC (lamD_by (N := N_law) (sc := defScope s_law) (df := (some ("_law_a", 0))) (by decide +kernel)) (.one "_law_a" 0 _ _ rfl (fun _ _ _ _ _ _ _ _ => ⟨_, rfl, rfl⟩)) rfl) (a_cons (q_lam TC (lamD_by (N := N_law) (sc := defScope s_law) (df := (some ("_law_b", 0))) (by decide +kernel)) (.one "_law_b" 0 _ _ rfl (fun _ _ _ _ _ _ _ _ => ⟨_, rfl, rfl⟩)) rfl) (a_cons (q_lam TC (lamD_by (N := N_law) (sc := defScope s_law) (df := (some ("_law_c", 0))) (by decide +kernel)) (.one "_law_c" 0 _ _ rfl (fun _ _ _ _ _ _ _ _ => ⟨_, rfl, rfl⟩)) rfl) a_nil))))))))
  (b_cons (s_if (t_c (cNe hr) (q_frz (f_lamlc (k := 7) (ic := 12) rfl sc_law.nd G__law_error cl__law_error hr LB (q_own (f_cat (v_ 3) (q_own (f_lst (a_cons (q_lam TC (lamD_by (N := N_law) (sc := defScope s_law) (df := none) (by decide +kernel)) (.no rfl (fun _ _ _ _ _ _ => rfl)) rfl) a_nil))))) (by decide +kernel) (blkOk_by (N := N_law) (sc := defScope s_law) (own := [("_law_call", 12)]) (by decide +kernel)) rfl (fun _ _ _ _ _ => ⟨.inl rfl, .inr rfl, .inl rfl, rfl⟩) (fun _ _ => rfl))) (q_frz (f_lst a_nil))) (b_one (s_ret q_bl)) b_nil)
  (b_cons (s_par (ps_par (i := 4) (j := 5) rfl sc_law.nd rfl rfl (by decide) rfl rfl (a_cons (q_tup (a_cons (q_tup (a_cons q_int (a_cons q_int (a_cons (q_neg q_int) a_nil)))) (a_cons (q_tup (a_cons (q_neg q_int) (a_cons q_int (a_cons q_int a_nil)))) (a_cons (q_tup (a_cons q_int (a_cons (q_neg q_int) (a_cons q_int a_nil)))) a_nil)))) (a_cons (q_add (q_tup (a_cons (q_tup (a_cons q_int (a_cons q_int (a_cons q_int (a_cons q_int (a_cons q_int a_nil)))))) a_nil)) (q_bt bTuple T.n_tuple (by decide +kernel) (a_cons (q_mul (q_frz (f_lst (a_cons (q_tup (a_cons (q_neg q_int) (a_cons q_int (a_cons q_int (a_cons q_int (a_cons q_int a_nil)))))) a_nil))) q_int) a_nil))) a_nil)) (by rfl)))
  (b_cons (s_set (ps_set (i := 6) sc_law.nd rfl (by first | exact .inl rfl | exact .inr rfl) (q_tup (a_cons (q_tup (a_cons q_int (a_cons q_int (a_cons q_int (a_cons q_int (a_cons q_int (a_cons q_int a_nil))))))) (a_cons (q_tup (a_cons (q_neg q_int) (a_cons q_int (a_cons q_int (a_cons q_int (a_cons q_int (a_cons q_int a_nil))))))) (a_cons (q_tup (a_cons q_int (a_cons (q_neg q_int) (a_cons q_int (a_cons q_int (a_cons q_int (a_cons q_int a_nil))))))) (a_cons (q_tup (a_cons q_int (a_cons (q_neg q_int) (a_cons q_int (a_cons q_int (a_cons q_int (a_cons q_int a_nil))))))) (a_cons (q_tup (a_cons q_int (a_cons q_int (a_cons q_int (a_cons q_int (a_cons q_int (a_cons q_int a_nil))))))) (a_cons (q_tup (a_cons (q_neg q_int) (a_cons q_int (a_cons q_int (a_cons q_int (a_cons (q_neg q_int) (a_cons q_int a_nil))))))) a_nil)))))))))
  (b_cons (s_set (ps_set (i := 7) sc_law.nd rfl (by first | exact .inl rfl | exact .inr rfl) (q_tup (a_cons (q_tup (a_cons q_int (a_cons q_int (a_cons q_int (a_cons q_int (a_cons q_int (a_cons q_int a_nil))))))) (a_cons (q_tup (a_cons (q_neg q_int) (a_cons q_int (a_cons q_int (a_cons q_int (a_cons q_int (a_cons q_int a_nil))))))) (a_cons (q_tup (a_cons q_int (a_cons (q_neg q_int) (a_cons q_int (a_cons q_int (a_cons q_int (a_cons q_int a_nil))))))) (a_cons (q_tup (a_cons q_int (a_cons (q_neg q_int) (a_cons q_int (a_cons q_int (a_cons q_int (a_cons q_int a_nil))))))) (a_cons (q_tup (a_cons q_int (a_cons q_int (a_cons q_int (a_cons (q_neg q_int) (a_cons q_int (a_cons q_int a_nil))))))) (a_cons (q_tup (a_cons q_int (a_cons q_int (a_cons q_int (a_cons (q_neg q_int) (a_cons q_int (a_cons q_int a_nil))))))) a_nil)))))))))
  (b_cons (s_set (ps_set (i := 8) sc_law.nd rfl (by first | exact .inl rfl | exact .inr rfl) (q_r C__law_pick hr (by omega) (L2N.takes_of rfl rfl rfl rfl) (v_ 1) (a_cons (q_frz (f_lst (a_cons (q_tup (a_cons (q_tup (a_cons q_int a_nil)) a_nil)) (a_cons (q_tup (a_cons (q_tup (a_cons q_int (a_cons q_int a_nil))) (a_cons (q_tup (a_cons q_int (a_cons q_int a_nil))) a_nil))) (a_cons (q_tup (a_cons (q_tup (a_cons q_int (a_cons q_int a_nil))) (a_cons (q_tup (a_cons (q_neg q_int) (a_cons q_int a_nil))) a_nil))) (a_cons (v_ 4) (a_cons (q_tup (a_cons (q_tup (a_cons q_int (a_cons q_int (a_cons q_int a_nil)))) (a_cons (q_tup (a_cons (q_neg q_int) (a_cons q_int (a_cons q_int a_nil)))) (a_cons (q_tup (a_cons q_int (a_cons q_int (a_cons q_int a_nil)))) a_nil)))) a_nil))))))) a_nil))))
  (b_cons (s_set (ps_set (i := 8) sc_law.nd rfl (by first | exact .inl rfl | exact .inr rfl) (q_if (t_c (cEq hr) (q_r C__law_taken hr (by omega) (L2N.takes_of rfl rfl rfl rfl) (v_ 1) (a_cons q_int a_nil)) q_int) (q_r C__law_pick hr (by omega) (L2N.takes_of rfl rfl rfl rfl) (v_ 1) (a_cons (q_frz (f_lst (a_cons (v_ 7) (a_cons (v_ 5) a_nil)))) a_nil)) (v_ 8))))
  (b_cons (s_if (t_c (cNe hr) (q_frz (f_lst (a_cons (q_er (df := none) (k := 7) G__law_error cl__law_error TC hr (lamD_by (N := N_law) (sc := defScope s_law) (df := none) (by decide +kernel)) (.no rfl (fun _ _ _ _ _ _ => rfl)) (fun A outer s H E f c' hr => (q_p C_sides hr (by omega) (takesN_of (L2.takes_of rfl rfl rfl rfl)) (a_cons (v_ 8) a_nil)))) (a_cons (q_er (df := (some ("_law_a", 0))) (k := 7) G__law_error cl__law_error TC hr (lamD_by (N := N_law) (sc := defScope s_law) (df := (some ("_law_a", 0))) (by decide +kernel)) (.one "_law_a" 0 _ _ rfl (fun _ _ _ _ _ _ _ _ => ⟨_, rfl, rfl⟩)) (fun A outer s H E f c' hr => (q_p C_beats hr (by omega) (takesN_of (L2.takes_of rfl rfl rfl rfl)) (a_cons (v_ 8) (a_cons q_non a_nil))))) (a_cons (q_er (df := (some ("_law_b", 0))) (k := 7) G__law_error cl__law_error TC hr (lamD_by (N := N_law) (sc := defScope s_law) (df := (some ("_law_b", 0))) (by decide +kernel)) (.one "_law_b" 0 _ _ rfl (fun _ _ _ _ _ _ _ _ => ⟨_, rfl, rfl⟩)) (fun A outer s H E f c' hr => (q_p C_beat hr (by omega) (takesN_of (L2.takes_of rfl rfl rfl rfl)) (a_cons (v_ 8) a_nil)))) a_nil))))) (q_mul (q_frz (f_lst (a_cons q_str a_nil))) q_int)) (b_one (s_ret q_bl)) b_nil)
  (b_cons (s_if (t_bool (w_and (t_c (cEq hr) (q_r C__law_taken hr (by omega) (L2N.takes_of rfl rfl rfl rfl) (v_ 1) (a_cons q_int a_nil)) q_int) (w_and1 (t_c (cNe hr) (q_er (df := none) (k := 7) G__law_error cl__law_error TC hr (lamD_by (N := N_law) (sc := defScope s_law) (df := none) (by decide +kernel)) (.no rfl (fun _ _ _ _ _ _ => rfl)) (fun A outer s H E f c' hr => (q_p C_sides hr (by omega) (takesN_of (L2.takes_of rfl rfl rfl rfl)) (a_cons (v_ 6) a_nil)))) q_str)))) (b_one (s_ret q_bl)) b_nil)
  (b_cons (s_set (ps_set (i := 9) sc_law.nd rfl (by first | exact .inl rfl | exact .inr rfl) (q_tup (a_cons (q_tup (a_cons q_int (a_cons q_int a_nil))) (a_cons (q_tup (a_cons (q_neg q_int) (a_cons q_int a_nil))) a_nil)))))
  (b_cons (s_if (t_bool (w_or (t_c (cNe hr) (q_frz (f_lc (own := [("_law_many", 14)]) rfl sc_law.nd (i_seq (q_frz (f_lst (a_cons q_non (a_cons (q_sub q_int q_int) (a_cons q_int (a_cons q_bl (a_cons q_str a_nil)))))))) (blkOk_by (N := N_law) (sc := defScope s_law) (own := [("_law_many", 14)]) (by decide +kernel)) (by decide) (fun _ _ _ _ _ => (pg_name (i := 14) sc_law.nd rfl (by first | exact .inl rfl | exact .inr rfl))) (fun _ _ _ _ _ => ts_nil) (fun _ _ _ _ _ => (q_er (df := none) (k := 7) G__law_error cl__law_error TC.blk hr (lamD_in (N := N_law) (sc0 := defScope s_law) (df := none) (by decide +kernel)) (.no rfl (fun _ _ _ _ _ _ => rfl)) (fun A outer s H E f c' hr => (q_p C_beats hr (by omega) (takesN_of (L2.takes_of rfl rfl rfl rfl)) (a_cons (v_ 9) (a_cons (v_ 14) a_nil)))))))) (q_mul (q_frz (f_lst (a_cons q_str a_nil))) q_int)) (w_or1 (t_c (cNe hr) (q_er (df := (some ("_law_a", 0))) (k := 7) G__law_error cl__law_error TC hr (lamD_by (N := N_law) (sc := defScope s_law) (df := (some ("_law_a", 0))) (by decide +kernel)) (.one "_law_a" 0 _ _ rfl (fun _ _ _ _ _ _ _ _ => ⟨_, rfl, rfl⟩)) (fun A outer s H E f c' hr => (q_p C_beats hr (by omega) (takesN_of (L2.takes_of rfl rfl rfl rfl)) (a_cons (v_ 9) (a_cons q_int a_nil))))) q_str)))) (b_one (s_ret q_bl)) b_nil)
  (b_cons (s_if (t_c (cNe hr) (q_er (df := none) (k := 7) G__law_error cl__law_error TC hr (lamD_by (N := N_law) (sc := defScope s_law) (df := none) (by decide +kernel)) (.no rfl (fun _ _ _ _ _ _ => rfl)) (fun A outer s H E f c' hr => (q_p C_steady_row hr (by omega) (takesN_of (L2.takes_of rfl rfl rfl rfl)) (a_cons (q_tup (a_cons (q_tup (a_cons q_int (a_cons q_int (a_cons q_int a_nil)))) (a_cons (q_tup (a_cons (q_neg q_int) (a_cons q_int (a_cons q_int a_nil)))) (a_cons (q_tup (a_cons q_int (a_cons (q_neg q_int) (a_cons q_int a_nil)))) a_nil)))) (a_cons q_non (a_cons q_non a_nil)))))) q_str) (b_one (s_ret q_bl)) b_nil)
  (b_cons (s_set (ps_set (i := 10) sc_law.nd rfl (by first | exact .inl rfl | exact .inr rfl) (q_frz (f_lst (a_cons q_non (a_cons (q_tup (a_cons (q_tup (a_cons q_int (a_cons q_int a_nil))) a_nil)) (a_cons (q_frz (f_lst (a_cons (q_tup (a_cons q_int (a_cons q_int a_nil))) (a_cons (q_tup (a_cons q_int (a_cons q_int a_nil))) a_nil)))) (a_cons (q_tup (a_cons (q_tup (a_cons q_int (a_cons q_int a_nil))) (a_cons (q_tup (a_cons q_int (a_cons q_int a_nil))) a_nil))) (a_cons (q_tup (a_cons (q_tup (a_cons q_int (a_cons q_int a_nil))) (a_cons (q_tup (a_cons q_int (a_cons q_int a_nil))) a_nil))) (a_cons (q_tup (a_cons (q_tup (a_cons (q_sub q_int q_int) (a_cons q_int a_nil))) (a_cons (q_tup (a_cons q_int (a_cons q_int a_nil))) a_nil))) (a_cons (q_mul (q_tup (a_cons (q_tup (a_cons q_int (a_cons q_int a_nil))) a_nil)) q_int) (a_cons q_int a_nil))))))))))))
  (b_cons (s_if (t_c (cNe hr) (q_frz (f_lc (own := [("_law_value", 13)]) rfl sc_law.nd (i_seq (v_ 10)) (blkOk_by (N := N_law) (sc := defScope s_law) (own := [("_law_value", 13)]) (by decide +kernel)) (by decide) (fun _ _ _ _ _ => (pg_name (i := 13) sc_law.nd rfl (by first | exact .inl rfl | exact .inr rfl))) (fun _ _ _ _ _ => ts_nil) (fun _ _ _ _ _ => (q_er (df := none) (k := 7) G__law_error cl__law_error TC.blk hr (lamD_in (N := N_law) (sc0 := defScope s_law) (df := none) (by decide +kernel)) (.no rfl (fun _ _ _ _ _ _ => rfl)) (fun A outer s H E f c' hr => (q_p C_steady_row hr (by omega) (takesN_of (L2.takes_of rfl rfl rfl rfl)) (a_cons (v_ 9) (a_cons (v_ 13) (a_cons q_non a_nil))))))))) (q_mul (q_frz (f_lst (a_cons q_str a_nil))) q_int)) (b_one (s_ret q_bl)) b_nil)
  (b_cons (s_set (ps_set (i := 11) sc_law.nd rfl (by first | exact .inl rfl | exact .inr rfl) (q_tup (a_cons (q_tup (a_cons q_int (a_cons q_int a_nil))) (a_cons (q_tup (a_cons q_int (a_cons q_int a_nil))) a_nil)))))
  (b_cons (s_if (t_c (cNe hr) (q_frz (f_lc (own := [("_law_many", 14)]) rfl sc_law.nd (i_seq (q_frz (f_lst (a_cons q_non (a_cons (q_sub q_int q_int) (a_cons q_int (a_cons q_bl a_nil))))))) (blkOk_by (N := N_law) (sc := defScope s_law) (own := [("_law_many", 14)]) (by decide +kernel)) (by decide) (fun _ _ _ _ _ => (pg_name (i := 14) sc_law.nd rfl (by first | exact .inl rfl | exact .inr rfl))) (fun _ _ _ _ _ => ts_nil) (fun _ _ _ _ _ => (q_er (df := none) (k := 7) G__law_error cl__law_error TC.blk hr (lamD_in (N := N_law) (sc0 := defScope s_law) (df := none) (by decide +kernel)) (.no rfl (fun _ _ _ _ _ _ => rfl)) (fun A outer s H E f c' hr => (q_p C_steady_row hr (by omega) (takesN_of (L2.takes_of rfl rfl rfl rfl)) (a_cons (v_ 9) (a_cons (v_ 11) (a_cons (v_ 14) a_nil))))))))) (q_mul (q_frz (f_lst (a_cons q_str a_nil))) q_int)) (b_one (s_ret q_bl)) b_nil)
  (b_one (s_ret (q_and (q_c (cEq hr) (q_frz (f_lc (own := [("_law_many", 14)]) rfl sc_law.nd (i_seq (q_tup (a_cons q_int (a_cons q_int (a_cons q_int (a_cons q_int a_nil)))))) (blkOk_by (N := N_law) (sc := defScope s_law) (own := [("_law_many", 14)]) (by decide +kernel)) (by decide) (fun _ _ _ _ _ => (pg_name (i := 14) sc_law.nd rfl (by first | exact .inl rfl | exact .inr rfl))) (fun _ _ _ _ _ => ts_nil) (fun _ _ _ _ _ => (q_b bLen T.n_len (by decide +kernel) (a_cons (q_p C_steady_row hr (by omega) takesN (a_cons (v_ 9) (a_cons (v_ 11) (a_cons (v_ 14) a_nil)))) a_nil))))) (q_frz (f_lst (a_cons q_int (a_cons q_int (a_cons q_int (a_cons q_int a_nil))))))) (q_one (q_c (cEq hr) (q_sl (q_p C_steady_row hr (by omega) (L2N.takes_of rfl rfl rfl rfl) (a_cons (v_ 9) (a_cons (v_ 11) (a_cons q_int a_nil)))) (o_some q_int) (o_some q_int)) (q_sl (v_ 11) o_none (o_some q_int)))))))))))))))))))))))))
end
end K29
set_option Elab.async false
set_option linter.all false
set_option maxRecDepth 100000
set_option maxHeartbeats 4000000
namespace K29
open PySem PySem.Spec PyProof.Rows DV
theorem pick_eq : F__law_pick = pickF := rfl
theorem taken_eq : F__law_taken = takenF := rfl
abbrev Er (c : Str) : Exn := ⟨c, []⟩
def twoD : PyData := .tuple [.tuple [.int 0, .int 1], .tuple [.int (-1), .int 0]]
def fairD : PyData := .tuple [.tuple [.int 1, .int 2], .tuple [.int 3, .int 1]]
def lineD : PyData := .tuple [.tuple [.int 0, .int 1, .int 0], .tuple [.int (-1), .int 0, .int 1], .tuple [.int 0, .int (-1), .int 0]]
def badL : List PyData := [.none, .tuple [], .list [.tuple [.int 0]], .tuple [.tuple [.int 1]], .tuple [.tuple [.int 0, .int 1], .tuple [.int 1, .int 0]], .tuple [.tuple [.int 0, .int 1001], .tuple [.int (-1001), .int 0]],
  .tuple (List.replicate 7 (.tuple (List.replicate 7 (.int 0)))), .int 3, .dict []]
theorem bad_calls {d : PyData} (h : d ∈ badL) : F_sides [d] = .er (Er "BadWeb") ∧ F_beats [d, .none] = .er (Er "BadWeb") ∧ F_beat [d] = .er (Er "BadWeb") ∧ F_is_steady [d] = .er (Er "BadWeb") ∧ F_steady_row [d, .none, .none] = .er (Er "BadWeb") := by
  unfold badL at h
  simp only [List.mem_cons, List.not_mem_nil, or_false] at h
  rcases h with rfl | rfl | rfl | rfl | rfl | rfl | rfl | rfl | rfl <;> exact ⟨by kernel_rfl, by kernel_rfl, by kernel_rfl, by kernel_rfl, by kernel_rfl⟩
theorem times_bad {d : PyData} (h : d ∈ [.none, .int (-1), .int 41, .bool true, .str "1"]) : F_beats [twoD, d] = .er (Er "BadTimes") := by
  simp only [List.mem_cons, List.not_mem_nil, or_false] at h
  rcases h with rfl | rfl | rfl | rfl | rfl <;> kernel_rfl
theorem not_steady : F_steady_row [lineD, .none, .none] = .er (Er "NotSteady") := by kernel_rfl
/-! ### no trees -/
def T (l : List (List Int)) : PyData := .tuple (l.map fun r => .tuple (r.map .int))
def ringD : PyData := T [[0, 1, -1], [-1, 0, 1], [1, -1, 0]]
def starD : PyData := T [[0, 1, 1, 1, 1], [-1, 0, 0, 0, 0], [-1, 0, 0, 0, 0], [-1, 0, 0, 0, 0], [-1, 0, 0, 0, 0]]
def forkD : PyData := T [[0, 1, 0, 0, 0, 1], [-1, 0, 1, 1, 0, 0], [0, -1, 0, 0, 0, 0], [0, -1, 0, 0, 0, 0], [0, 0, 0, 0, 0, 1], [-1, 0, 0, 0, -1, 0]]
def combD : PyData := T [[0, 1, 0, 0, 0, 0], [-1, 0, 1, 1, 0, 0], [0, -1, 0, 0, 0, 0], [0, -1, 0, 0, 1, 1], [0, 0, 0, -1, 0, 0], [0, 0, 0, -1, 0, 0]]
def websL : List PyData := [T [[0]], T [[0, 0], [0, 0]], T [[0, 2], [-2, 0]], ringD, T [[0, 1, 0], [-1, 0, 0], [0, 0, 0]]]
theorem no_tree {d : PyData} (h : d ∈ websL ++ [combD, starD]) : F_sides [d] = .er (Er "NoTree") ∧ F_beats [d, .none] = .er (Er "NoTree") ∧ F_beat [d] = .er (Er "NoTree") := by
  unfold websL at h
  simp only [List.cons_append, List.nil_append, List.mem_cons, List.not_mem_nil, or_false] at h
  rcases h with rfl | rfl | rfl | rfl | rfl | rfl | rfl <;> exact ⟨by kernel_rfl, by kernel_rfl, by kernel_rfl⟩
/-! ### shares and times -/
def onesD : PyData := .tuple [.int 1, .int 1]
def oddL : List PyData := [.none, .tuple [onesD], .list [onesD, onesD], .tuple [.tuple [.int 2, .int 4], onesD], .tuple [.tuple [.int 0, .int 1], onesD], .tuple [.tuple [.int (-1), .int 2], onesD], .tuple [onesD, onesD, onesD], .int 3]
theorem no_shares {d : PyData} (h : d ∈ oddL) : F_steady_row [twoD, d, .none] = .er (Er "BadShares") := by
  unfold oddL at h
  simp only [List.mem_cons, List.not_mem_nil, or_false] at h
  rcases h with rfl | rfl | rfl | rfl | rfl | rfl | rfl | rfl <;> kernel_rfl
theorem no_times {d : PyData} (h : d ∈ [.none, .int (-1), .int 61, .bool true]) : F_steady_row [twoD, fairD, d] = .er (Er "BadTimes") := by
  simp only [List.mem_cons, List.not_mem_nil, or_false] at h
  rcases h with rfl | rfl | rfl | rfl <;> kernel_rfl
end K29
set_option Elab.async false
set_option linter.all false
set_option maxRecDepth 100000
set_option maxHeartbeats 4000000
namespace K29
open PySem PySem.Spec PyProof.Rows DV
def lastE : DE := (andV (bin eqD (frzE (lcF [14] (seqI (tupE (consL (cst (.int 0)) (consL (cst (.int 1)) (consL (cst (.int 2)) (consL (cst (.int 60)) nilL)))))) (.nm 14) yes (blt lenD (consL (callP F_steady_row (consL (var 9) (consL (var 11) (consL (var 14) nilL)))) nilL)))) (frzE (szF (consL (cst (.int 0)) (consL (cst (.int 1)) (consL (cst (.int 2)) (consL (cst (.int 60)) nilL))))))) (bin eqD (slE (callP F_steady_row (consL (var 9) (consL (var 11) (consL (cst (.int 60)) nilL)))) (someO (cst (.int 5))) (someO (cst (.int 7)))) (slE (var 11) noO (someO (cst (.int 2))))))
theorem last_ok {x0 x1 x2 x3 x4 x5 x6 x7 x8 x10 : Option Val} {S : Sto} : lastE [x0, x1, x2, x3, x4, x5, x6, x7, x8, some (.d twoD), x10, some (.d fairD), none, none, none] S = .ok (.d (.bool true)) S := by kernel_rfl
end K29
set_option Elab.async false
set_option linter.all false
set_option maxRecDepth 100000
set_option maxHeartbeats 4000000
namespace K29
open PySem PySem.Spec PyProof.Rows DV
def timesC : DS := (ifS (orB (asB (bin neD (frzE (lcF [14] (seqI (frzE (szF (consL (cst .none) (consL (bin subD (cst (.int 0)) (cst (.int 1))) (consL (cst (.int 41)) (consL (cst (.bool true)) (consL (cst (.str "1")) nilL)))))))) (.nm 14) yes (errE "law" 0 tab__law_error "" (callP F_beats (consL (var 9) (consL (var 14) nilL)))))) (bin mulD (frzE (szF (consL (cst (.str "BadTimes")) nilL))) (cst (.int 5))))) (asB (bin neD (errE "law" 0 tab__law_error "" (callP F_beats (consL (var 9) (consL (cst (.int 40)) nilL)))) (cst (.str ""))))) (rtS (cst (.bool false))) nilS)
theorem timesC_ok {x0 x1 x2 x3 x4 x5 x6 x7 x8 x10 x11 : Option Val} {T : Sto} : timesC [x0, x1, x2, x3, x4, x5, x6, x7, x8, some (.d twoD), x10, x11, none, none, none] (.gh (.tab "law") :: T) = .nx [x0, x1, x2, x3, x4, x5, x6, x7, x8, some (.d twoD), x10, x11, none, none, none] (.gh (.tab "law") :: T) := by kernel_rfl
end K29
set_option Elab.async false
set_option linter.all false
set_option maxRecDepth 100000
set_option maxHeartbeats 4000000
/-! L29b: k29's law, statement by statement. -/
namespace K29
open PySem PySem.Spec PyProof.Rows DV
def c1 : DS := (asgS 1 (ownE (szF (consL (var 0) (consL (cst (.int 0)) (consL (cst (.int 7329)) (consL (cst (.int 0)) nilL)))))))
def c2 : DS := (asgS 2 (callR F__law_pick (var 1) (consL (frzE (szF (consL (cst .none) (consL (tupE nilL) (consL (frzE (szF (consL (tupE (consL (cst (.int 0)) nilL)) nilL))) (consL (tupE (consL (tupE (consL (cst (.int 1)) nilL)) nilL)) (consL (tupE (consL (tupE (consL (cst (.int 0)) (consL (cst (.int 1)) nilL))) (consL (tupE (consL (cst (.int 1)) (consL (cst (.int 0)) nilL))) nilL))) (consL (tupE (consL (tupE (consL (cst (.int 0)) (consL (cst (.int 1001)) nilL))) (consL (tupE (consL (un negD (cst (.int 1001))) (consL (cst (.int 0)) nilL))) nilL))) (consL (bin mulD (tupE (consL (bin mulD (tupE (consL (cst (.int 0)) nilL)) (cst (.int 7))) nilL)) (cst (.int 7))) (consL (cst (.int 3)) (consL (cst (.dict [])) nilL))))))))))) nilL)))
def c3 (cl : List (Str × Addr)) : DS := (asgS 3 (ownE (szF (consL (lamE "law" 0 0 (LT_law 0) cl) (consL (lamE "law" 0 1 (LT_law 1) cl) (consL (lamE "law" 0 2 (LT_law 2) cl) (consL (lamE "law" 0 3 (LT_law 3) cl) nilL)))))))
noncomputable def c4 (cl : List (Str × Addr)) : DS := (ifS (asB (bin neD (frzE (lamF tab__law_error "" "BadWeb" LT_law fbs_law cl (ownE (catF (var 3) (ownE (szF (consL (lamE "law" 0 4 (LT_law 4) cl) nilL))))))) (frzE (szF nilL)))) (rtS (cst (.bool false))) nilS)
def c5 : DS := (parS [4, 5] (consL (tupE (consL (tupE (consL (cst (.int 0)) (consL (cst (.int 1)) (consL (un negD (cst (.int 1))) nilL)))) (consL (tupE (consL (un negD (cst (.int 1))) (consL (cst (.int 0)) (consL (cst (.int 1)) nilL)))) (consL (tupE (consL (cst (.int 1)) (consL (un negD (cst (.int 1))) (consL (cst (.int 0)) nilL)))) nilL)))) (consL (bin addD (tupE (consL (tupE (consL (cst (.int 0)) (consL (cst (.int 1)) (consL (cst (.int 1)) (consL (cst (.int 1)) (consL (cst (.int 1)) nilL)))))) nilL)) (blt tupD (consL (bin mulD (frzE (szF (consL (tupE (consL (un negD (cst (.int 1))) (consL (cst (.int 0)) (consL (cst (.int 0)) (consL (cst (.int 0)) (consL (cst (.int 0)) nilL)))))) nilL))) (cst (.int 4))) nilL))) nilL)))
def c6 : DS := (asgS 6 (tupE (consL (tupE (consL (cst (.int 0)) (consL (cst (.int 1)) (consL (cst (.int 0)) (consL (cst (.int 0)) (consL (cst (.int 0)) (consL (cst (.int 1)) nilL))))))) (consL (tupE (consL (un negD (cst (.int 1))) (consL (cst (.int 0)) (consL (cst (.int 1)) (consL (cst (.int 1)) (consL (cst (.int 0)) (consL (cst (.int 0)) nilL))))))) (consL (tupE (consL (cst (.int 0)) (consL (un negD (cst (.int 1))) (consL (cst (.int 0)) (consL (cst (.int 0)) (consL (cst (.int 0)) (consL (cst (.int 0)) nilL))))))) (consL (tupE (consL (cst (.int 0)) (consL (un negD (cst (.int 1))) (consL (cst (.int 0)) (consL (cst (.int 0)) (consL (cst (.int 0)) (consL (cst (.int 0)) nilL))))))) (consL (tupE (consL (cst (.int 0)) (consL (cst (.int 0)) (consL (cst (.int 0)) (consL (cst (.int 0)) (consL (cst (.int 0)) (consL (cst (.int 1)) nilL))))))) (consL (tupE (consL (un negD (cst (.int 1))) (consL (cst (.int 0)) (consL (cst (.int 0)) (consL (cst (.int 0)) (consL (un negD (cst (.int 1))) (consL (cst (.int 0)) nilL))))))) nilL))))))))
def c7 : DS := (asgS 7 (tupE (consL (tupE (consL (cst (.int 0)) (consL (cst (.int 1)) (consL (cst (.int 0)) (consL (cst (.int 0)) (consL (cst (.int 0)) (consL (cst (.int 0)) nilL))))))) (consL (tupE (consL (un negD (cst (.int 1))) (consL (cst (.int 0)) (consL (cst (.int 1)) (consL (cst (.int 1)) (consL (cst (.int 0)) (consL (cst (.int 0)) nilL))))))) (consL (tupE (consL (cst (.int 0)) (consL (un negD (cst (.int 1))) (consL (cst (.int 0)) (consL (cst (.int 0)) (consL (cst (.int 0)) (consL (cst (.int 0)) nilL))))))) (consL (tupE (consL (cst (.int 0)) (consL (un negD (cst (.int 1))) (consL (cst (.int 0)) (consL (cst (.int 0)) (consL (cst (.int 1)) (consL (cst (.int 1)) nilL))))))) (consL (tupE (consL (cst (.int 0)) (consL (cst (.int 0)) (consL (cst (.int 0)) (consL (un negD (cst (.int 1))) (consL (cst (.int 0)) (consL (cst (.int 0)) nilL))))))) (consL (tupE (consL (cst (.int 0)) (consL (cst (.int 0)) (consL (cst (.int 0)) (consL (un negD (cst (.int 1))) (consL (cst (.int 0)) (consL (cst (.int 0)) nilL))))))) nilL))))))))
def c8 : DS := (asgS 8 (callR F__law_pick (var 1) (consL (frzE (szF (consL (tupE (consL (tupE (consL (cst (.int 0)) nilL)) nilL)) (consL (tupE (consL (tupE (consL (cst (.int 0)) (consL (cst (.int 0)) nilL))) (consL (tupE (consL (cst (.int 0)) (consL (cst (.int 0)) nilL))) nilL))) (consL (tupE (consL (tupE (consL (cst (.int 0)) (consL (cst (.int 2)) nilL))) (consL (tupE (consL (un negD (cst (.int 2))) (consL (cst (.int 0)) nilL))) nilL))) (consL (var 4) (consL (tupE (consL (tupE (consL (cst (.int 0)) (consL (cst (.int 1)) (consL (cst (.int 0)) nilL)))) (consL (tupE (consL (un negD (cst (.int 1))) (consL (cst (.int 0)) (consL (cst (.int 0)) nilL)))) (consL (tupE (consL (cst (.int 0)) (consL (cst (.int 0)) (consL (cst (.int 0)) nilL)))) nilL)))) nilL))))))) nilL)))
def c9 : DS := (asgS 8 (ifE (asB (bin eqD (callR F__law_taken (var 1) (consL (cst (.int 20)) nilL)) (cst (.int 19)))) (callR F__law_pick (var 1) (consL (frzE (szF (consL (var 7) (consL (var 5) nilL)))) nilL)) (var 8)))
def c10 : DS := (ifS (asB (bin neD (frzE (szF (consL (errE "law" 0 tab__law_error "" (callP F_sides (consL (var 8) nilL))) (consL (errE "law" 0 tab__law_error "" (callP F_beats (consL (var 8) (consL (cst .none) nilL)))) (consL (errE "law" 0 tab__law_error "" (callP F_beat (consL (var 8) nilL))) nilL))))) (bin mulD (frzE (szF (consL (cst (.str "NoTree")) nilL))) (cst (.int 3))))) (rtS (cst (.bool false))) nilS)
def c11 : DS := (ifS (andB (asB (bin eqD (callR F__law_taken (var 1) (consL (cst (.int 20)) nilL)) (cst (.int 19)))) (asB (bin neD (errE "law" 0 tab__law_error "" (callP F_sides (consL (var 6) nilL))) (cst (.str ""))))) (rtS (cst (.bool false))) nilS)
def c12 : DS := (asgS 9 (tupE (consL (tupE (consL (cst (.int 0)) (consL (cst (.int 1)) nilL))) (consL (tupE (consL (un negD (cst (.int 1))) (consL (cst (.int 0)) nilL))) nilL))))
def c13 : DS := (ifS (orB (asB (bin neD (frzE (lcF [14] (seqI (frzE (szF (consL (cst .none) (consL (bin subD (cst (.int 0)) (cst (.int 1))) (consL (cst (.int 41)) (consL (cst (.bool true)) (consL (cst (.str "1")) nilL)))))))) (.nm 14) yes (errE "law" 0 tab__law_error "" (callP F_beats (consL (var 9) (consL (var 14) nilL)))))) (bin mulD (frzE (szF (consL (cst (.str "BadTimes")) nilL))) (cst (.int 5))))) (asB (bin neD (errE "law" 0 tab__law_error "" (callP F_beats (consL (var 9) (consL (cst (.int 40)) nilL)))) (cst (.str ""))))) (rtS (cst (.bool false))) nilS)
def c14 : DS := (ifS (asB (bin neD (errE "law" 0 tab__law_error "" (callP F_steady_row (consL (tupE (consL (tupE (consL (cst (.int 0)) (consL (cst (.int 1)) (consL (cst (.int 0)) nilL)))) (consL (tupE (consL (un negD (cst (.int 1))) (consL (cst (.int 0)) (consL (cst (.int 1)) nilL)))) (consL (tupE (consL (cst (.int 0)) (consL (un negD (cst (.int 1))) (consL (cst (.int 0)) nilL)))) nilL)))) (consL (cst .none) (consL (cst .none) nilL))))) (cst (.str "NotSteady")))) (rtS (cst (.bool false))) nilS)
def c15 : DS := (asgS 10 (frzE (szF (consL (cst .none) (consL (tupE (consL (tupE (consL (cst (.int 1)) (consL (cst (.int 1)) nilL))) nilL)) (consL (frzE (szF (consL (tupE (consL (cst (.int 1)) (consL (cst (.int 1)) nilL))) (consL (tupE (consL (cst (.int 1)) (consL (cst (.int 1)) nilL))) nilL)))) (consL (tupE (consL (tupE (consL (cst (.int 2)) (consL (cst (.int 4)) nilL))) (consL (tupE (consL (cst (.int 1)) (consL (cst (.int 1)) nilL))) nilL))) (consL (tupE (consL (tupE (consL (cst (.int 0)) (consL (cst (.int 1)) nilL))) (consL (tupE (consL (cst (.int 1)) (consL (cst (.int 1)) nilL))) nilL))) (consL (tupE (consL (tupE (consL (bin subD (cst (.int 0)) (cst (.int 1))) (consL (cst (.int 2)) nilL))) (consL (tupE (consL (cst (.int 1)) (consL (cst (.int 1)) nilL))) nilL))) (consL (bin mulD (tupE (consL (tupE (consL (cst (.int 1)) (consL (cst (.int 1)) nilL))) nilL)) (cst (.int 3))) (consL (cst (.int 3)) nilL)))))))))))
def c16 : DS := (ifS (asB (bin neD (frzE (lcF [13] (seqI (var 10)) (.nm 13) yes (errE "law" 0 tab__law_error "" (callP F_steady_row (consL (var 9) (consL (var 13) (consL (cst .none) nilL))))))) (bin mulD (frzE (szF (consL (cst (.str "BadShares")) nilL))) (cst (.int 8))))) (rtS (cst (.bool false))) nilS)
def c17 : DS := (asgS 11 (tupE (consL (tupE (consL (cst (.int 1)) (consL (cst (.int 2)) nilL))) (consL (tupE (consL (cst (.int 3)) (consL (cst (.int 1)) nilL))) nilL))))
def c18 : DS := (ifS (asB (bin neD (frzE (lcF [14] (seqI (frzE (szF (consL (cst .none) (consL (bin subD (cst (.int 0)) (cst (.int 1))) (consL (cst (.int 61)) (consL (cst (.bool true)) nilL))))))) (.nm 14) yes (errE "law" 0 tab__law_error "" (callP F_steady_row (consL (var 9) (consL (var 11) (consL (var 14) nilL))))))) (bin mulD (frzE (szF (consL (cst (.str "BadTimes")) nilL))) (cst (.int 4))))) (rtS (cst (.bool false))) nilS)
def c19 : DS := (rtS (andV (bin eqD (frzE (lcF [14] (seqI (tupE (consL (cst (.int 0)) (consL (cst (.int 1)) (consL (cst (.int 2)) (consL (cst (.int 60)) nilL)))))) (.nm 14) yes (blt lenD (consL (callP F_steady_row (consL (var 9) (consL (var 11) (consL (var 14) nilL)))) nilL)))) (frzE (szF (consL (cst (.int 0)) (consL (cst (.int 1)) (consL (cst (.int 2)) (consL (cst (.int 60)) nilL))))))) (bin eqD (slE (callP F_steady_row (consL (var 9) (consL (var 11) (consL (cst (.int 60)) nilL)))) (someO (cst (.int 5))) (someO (cst (.int 7)))) (slE (var 11) noO (someO (cst (.int 2)))))))
theorem D_eq (cl : List (Str × Addr)) : D_law cl = (seqS c1 (seqS c2 (seqS (c3 cl) (seqS (c4 cl) (seqS c5 (seqS c6 (seqS c7 (seqS c8 (seqS c9 (seqS c10 (seqS c11 (seqS c12 (seqS c13 (seqS c14 (seqS c15 (seqS c16 (seqS c17 (seqS c18 c19)))))))))))))))))) := rfl

theorem z_callPE {Fn : FnP} {la : DL} {sl : Sl} {S S1 : Sto} {ds : List PyData} {e : Exn} (h : la sl S = .ok (ds.map .d) S1) (h2 : Fn ds = .er e) : callP Fn la sl S = .er e S1 := by
  show (la sl S).bind _ = _
  rw [h]
  show (match frzL S1 (ds.map .d) with | some (ds, S2) => (match Fn ds with | .ok x => R.ok (Val.d x) S2 | .er e => .er e S2 | .bad => .bad) | none => .bad) = _
  rw [frzL_d]
  show (match Fn ds with | .ok x => R.ok (Val.d x) S1 | .er e => .er e S1 | .bad => .bad) = _
  rw [h2]
theorem z_ifEF {c : DB} {g h : DE} {sl : Sl} {S S1 : Sto} {r : R Val} (e : c sl S = .ok false S1) (h2 : h sl S1 = r) : ifE c g h sl S = r := by
  unfold ifE
  rw [e]
  exact h2
theorem z_ifET {c : DB} {g h : DE} {sl : Sl} {S S1 : Sto} {r : R Val} (e : c sl S = .ok true S1) (h2 : g sl S1 = r) : ifE c g h sl S = r := by
  unfold ifE
  rw [e]
  exact h2
def tabO : Ob := .gh (.tab "law")
def lamO (cl : List (Str × Addr)) (j : Nat) : Ob := .gh (.lam j (LT_law j) cl)
/-- the store: the table, the row, what the lambdas left -/
def TS (row : List PyData) (cl : List (Str × Addr)) : Sto := [tabO, .lst (row.map .d), lamO cl 0, lamO cl 1, lamO cl 2, lamO cl 3, .lst [.loc 2, .loc 3, .loc 4, .loc 5]]
def U (row : List PyData) (cl : List (Str × Addr)) : Sto := [tabO, .lst (row.map .d), lamO cl 0, lamO cl 1, lamO cl 2, lamO cl 3, .lst [.loc 2, .loc 3, .loc 4, .loc 5], lamO cl 4, .lst [.loc 7], .lst [.loc 2, .loc 3, .loc 4, .loc 5, .loc 7]]
section
variable {row : List PyData} {cl : List (Str × Addr)} {d : PyData} {S : Sto} {x0 x1 x2 x3 x4 x5 x6 x7 x8 x9 x10 x11 x12 x13 x14 : Option Val}
theorem c3_ok : c3 cl [x0, x1, x2, x3, x4, x5, x6, x7, x8, x9, x10, x11, x12, x13, x14] [tabO, .lst (row.map .d)] = .nx [x0, x1, x2, some (.loc 6), x4, x5, x6, x7, x8, x9, x10, x11, x12, x13, x14] (TS row cl) :=
  z_asg (z_own (S1 := [tabO, .lst (row.map .d), lamO cl 0, lamO cl 1, lamO cl 2, lamO cl 3]) (z_sz (z_cons (z_lamE rfl) (z_cons (z_lamE rfl) (z_cons (z_lamE rfl) (z_cons (z_lamE rfl) z_nil)))) (sz_ge 4 (by decide))))
theorem c4_ok (hb : d ∈ badL) : c4 cl [x0, x1, some (.d d), some (.loc 6), x4, x5, x6, x7, x8, x9, x10, x11, x12, x13, x14] (TS row cl) = .nx [x0, x1, some (.d d), some (.loc 6), x4, x5, x6, x7, x8, x9, x10, x11, x12, x13, x14] (U row cl) := by
  obtain ⟨e0, e1, e2, e3, e4⟩ := bad_calls hb
  have g1 : ownE (szF (consL (lamE "law" 0 4 (LT_law 4) cl) nilL)) [x0, x1, some (.d d), some (.loc 6), x4, x5, x6, x7, x8, x9, x10, x11, x12, x13, x14] (TS row cl) = .ok (.loc 8) (TS row cl ++ [lamO cl 4, .lst [.loc 7]]) :=
    z_own (S1 := TS row cl ++ [lamO cl 4]) (z_sz (z_cons (z_lamE rfl) z_nil) (sz_ge 1 (by decide)))
  have g2 : ownE (catF (var 3) (ownE (szF (consL (lamE "law" 0 4 (LT_law 4) cl) nilL)))) [x0, x1, some (.d d), some (.loc 6), x4, x5, x6, x7, x8, x9, x10, x11, x12, x13, x14] (TS row cl) = .ok (.loc 9) (U row cl) :=
    z_own (S1 := TS row cl ++ [lamO cl 4, .lst [.loc 7]]) (z_cat (xs := [.loc 2, .loc 3, .loc 4, .loc 5]) (ys := [.loc 7]) (z_var rfl) g1 rfl rfl (sz_ge 5 (by decide)))
  refine z_ifF (z_asB (z_bin (d1 := .list []) (d2 := .list []) (z_frzE (ds := []) (z_lamF (S1 := U row cl) (k := 9) (ys := [.loc 2, .loc 3, .loc 4, .loc 5, .loc 7]) g2 rfl fun v hv => ?_)) (z_frzE (ds := []) (z_sz z_nilD (Nat.zero_le _))) rfl)) rfl
  simp only [List.mem_cons, List.not_mem_nil, or_false] at hv
  rcases hv with rfl | rfl | rfl | rfl | rfl
  · exact ⟨fb_law_0, Er "BadWeb", lamAt_ok (j := 0) rfl rfl, z_callPE (ds := [d]) (z_consD (z_var rfl) z_nilD) e0, rfl⟩
  · exact ⟨fb_law_1, Er "BadWeb", lamAt_ok (j := 1) rfl rfl, z_callPE (ds := [d, .none]) (z_consD (z_var rfl) (z_consD rfl z_nilD)) e1, rfl⟩
  · exact ⟨fb_law_2, Er "BadWeb", lamAt_ok (j := 2) rfl rfl, z_callPE (ds := [d]) (z_consD (z_var rfl) z_nilD) e2, rfl⟩
  · exact ⟨fb_law_3, Er "BadWeb", lamAt_ok (j := 3) rfl rfl, z_callPE (ds := [d]) (z_consD (z_var rfl) z_nilD) e3, rfl⟩
  · exact ⟨fb_law_4, Er "BadWeb", lamAt_ok (j := 4) rfl rfl, z_callPE (ds := [d, .none, .none]) (z_consD (z_var rfl) (z_consD rfl (z_consD rfl z_nilD))) e4, rfl⟩
theorem c5_ok : c5 [x0, x1, x2, x3, x4, x5, x6, x7, x8, x9, x10, x11, x12, x13, x14] S = .nx [x0, x1, x2, x3, some (.d ringD), some (.d starD), x6, x7, x8, x9, x10, x11, x12, x13, x14] S := by kernel_rfl
theorem c6_ok : c6 [x0, x1, x2, x3, x4, x5, x6, x7, x8, x9, x10, x11, x12, x13, x14] S = .nx [x0, x1, x2, x3, x4, x5, some (.d forkD), x7, x8, x9, x10, x11, x12, x13, x14] S := by kernel_rfl
theorem c7_ok : c7 [x0, x1, x2, x3, x4, x5, x6, x7, x8, x9, x10, x11, x12, x13, x14] S = .nx [x0, x1, x2, x3, x4, x5, x6, some (.d combD), x8, x9, x10, x11, x12, x13, x14] S := by kernel_rfl
theorem c10_ok (h : d ∈ websL ++ [combD, starD]) : c10 [x0, x1, x2, x3, x4, x5, x6, x7, some (.d d), x9, x10, x11, x12, x13, x14] (tabO :: S) = .nx [x0, x1, x2, x3, x4, x5, x6, x7, some (.d d), x9, x10, x11, x12, x13, x14] (tabO :: S) := by
  unfold websL at h
  simp only [List.cons_append, List.nil_append, List.mem_cons, List.not_mem_nil, or_false] at h
  rcases h with rfl | rfl | rfl | rfl | rfl | rfl | rfl <;> kernel_rfl
theorem fork_ok : (asB (bin neD (errE "law" 0 tab__law_error "" (callP F_sides (consL (var 6) nilL))) (cst (.str "")))) [x0, x1, x2, x3, x4, x5, some (.d forkD), x7, x8, x9, x10, x11, x12, x13, x14] (tabO :: S) = .ok false (tabO :: S) := by kernel_rfl
theorem c12_ok : c12 [x0, x1, x2, x3, x4, x5, x6, x7, x8, x9, x10, x11, x12, x13, x14] S = .nx [x0, x1, x2, x3, x4, x5, x6, x7, x8, some (.d twoD), x10, x11, x12, x13, x14] S := by kernel_rfl
theorem c14_ok : c14 [x0, x1, x2, x3, x4, x5, x6, x7, x8, x9, x10, x11, x12, x13, x14] (tabO :: S) = .nx [x0, x1, x2, x3, x4, x5, x6, x7, x8, x9, x10, x11, x12, x13, x14] (tabO :: S) := by kernel_rfl
theorem c15_ok : c15 [x0, x1, x2, x3, x4, x5, x6, x7, x8, x9, x10, x11, x12, x13, x14] S = .nx [x0, x1, x2, x3, x4, x5, x6, x7, x8, x9, some (.d (.list oddL)), x11, x12, x13, x14] S := by kernel_rfl
theorem c16_ok : c16 [x0, x1, x2, x3, x4, x5, x6, x7, x8, some (.d twoD), some (.d (.list oddL)), x11, x12, none, x14] (tabO :: S) = .nx [x0, x1, x2, x3, x4, x5, x6, x7, x8, some (.d twoD), some (.d (.list oddL)), x11, x12, none, x14] (tabO :: S) := by kernel_rfl
theorem c17_ok : c17 [x0, x1, x2, x3, x4, x5, x6, x7, x8, x9, x10, x11, x12, x13, x14] S = .nx [x0, x1, x2, x3, x4, x5, x6, x7, x8, x9, x10, some (.d fairD), x12, x13, x14] S := by kernel_rfl
theorem c18_ok : c18 [x0, x1, x2, x3, x4, x5, x6, x7, x8, some (.d twoD), x10, some (.d fairD), x12, x13, none] (tabO :: S) = .nx [x0, x1, x2, x3, x4, x5, x6, x7, x8, some (.d twoD), x10, some (.d fairD), x12, x13, none] (tabO :: S) := by kernel_rfl
end
theorem c13_ok {x0 x1 x2 x3 x4 x5 x6 x7 x8 x10 x11 : Option Val} {S : Sto} : c13 [x0, x1, x2, x3, x4, x5, x6, x7, x8, some (.d twoD), x10, x11, none, none, none] (tabO :: S) = .nx [x0, x1, x2, x3, x4, x5, x6, x7, x8, some (.d twoD), x10, x11, none, none, none] (tabO :: S) := timesC_ok
theorem c19_ok {x0 x1 x2 x3 x4 x5 x6 x7 x8 x10 : Option Val} {S : Sto} : c19 [x0, x1, x2, x3, x4, x5, x6, x7, x8, some (.d twoD), x10, some (.d fairD), none, none, none] S = .rt (.bool true) S := z_rt last_ok
/-- the row's draw in any store -/
theorem take20 {row : List PyData} {sl : Sl} {S : Sto} (hr : RowOk row) (v1 : sl[1]? = some (some (.loc 1))) (h0 : S[1]? = some (.lst (row.map .d))) :
    ∃ r row', callR F__law_taken (var 1) (consL (cst (.int 20)) nilL) sl S = .ok (.d (.int r)) (S.set 1 (.lst (row'.map .d))) ∧ RowOk row' := by
  obtain ⟨r, row', e, ok, _, _⟩ := taken_ok hr (many := 20) (by decide) (by decide)
  exact ⟨r, row', z_callR (Fn := F__law_taken) (k := 1) (ds := [.int 20]) (row := row) (z_var v1) (z_consD rfl z_nilD) h0 e, ok⟩
theorem is19 {row : List PyData} {sl : Sl} {S : Sto} (hr : RowOk row) (v1 : sl[1]? = some (some (.loc 1))) (h0 : S[1]? = some (.lst (row.map .d))) :
    ∃ b row', asB (bin eqD (callR F__law_taken (var 1) (consL (cst (.int 20)) nilL)) (cst (.int 19))) sl S = .ok b (S.set 1 (.lst (row'.map .d))) ∧ RowOk row' := by
  obtain ⟨r, row', e, ok⟩ := take20 hr v1 h0
  exact ⟨_, row', z_asB (z_bin (d2 := .int 19) e rfl (eqD_int _ _)), ok⟩
theorem law_true (ns : List Int) (hl : ns.length ≤ 63) (cl : List (Str × Addr)) : endP (D_law cl (slots N_law.length ([scrD ns].map .d)) [.gh (.tab "law")]) = .ok (.bool true) := by
  have ok0 : RowOk (rowD ns 0 7329 0) := ⟨ns, 0, 7329, 0, rfl, by decide, by decide, by decide⟩
  obtain ⟨bad, row1, e1, ok1, hbad⟩ := pick_ok ok0 (xs := badL) (List.cons_ne_nil _ _) (show 9 ≤ 1000000 by decide)
  obtain ⟨web, row2, e2, ok2, hweb⟩ := pick_ok ok1 (xs := websL) (List.cons_ne_nil _ _) (show 5 ≤ 1000000 by decide)
  let sc : Option Val := some (.d (scrD ns))
  let rw1 : Option Val := some (.loc 1)
  let b : Option Val := some (.d bad)
  let l6 : Option Val := some (.loc 6)
  let w : Option Val := some (.d web)
  let ri : Option Val := some (.d ringD)
  let sr : Option Val := some (.d starD)
  let fk : Option Val := some (.d forkD)
  let cm : Option Val := some (.d combD)
  let tw : Option Val := some (.d twoD)
  let od : Option Val := some (.d (.list oddL))
  let fr : Option Val := some (.d fairD)
  have p1 : c1 (slots N_law.length ([scrD ns].map .d)) [tabO] = .nx [sc, rw1, none, none, none, none, none, none, none, none, none, none, none, none, none] [tabO, .lst ((rowD ns 0 7329 0).map .d)] :=
    z_asg (z_own (S1 := [tabO]) (z_sz (z_cons (z_var rfl) (z_cons rfl (z_cons rfl (z_cons rfl z_nil)))) (sz_ge 4 (by decide))))
  have p2 : c2 [sc, rw1, none, none, none, none, none, none, none, none, none, none, none, none, none] [tabO, .lst ((rowD ns 0 7329 0).map .d)] = .nx [sc, rw1, b, none, none, none, none, none, none, none, none, none, none, none, none] [tabO, .lst (row1.map .d)] :=
    z_asg (z_callR (Fn := F__law_pick) (k := 1) (S1 := [tabO, .lst ((rowD ns 0 7329 0).map .d)]) (S2 := [tabO, .lst ((rowD ns 0 7329 0).map .d)]) (ds := [.list badL]) (row := rowD ns 0 7329 0) (z_var rfl) (show _ = R.ok ([.list badL].map Val.d) _ from rfl) rfl e1)
  have p8 : c8 [sc, rw1, b, l6, ri, sr, fk, cm, none, none, none, none, none, none, none] (U row1 cl) = .nx [sc, rw1, b, l6, ri, sr, fk, cm, w, none, none, none, none, none, none] (U row2 cl) :=
    z_asg (z_callR (Fn := F__law_pick) (k := 1) (S1 := U row1 cl) (S2 := U row1 cl) (ds := [.list websL]) (row := row1) (z_var rfl) (show _ = R.ok ([.list websL].map Val.d) _ from rfl) rfl e2)
  obtain ⟨web', row4, p9, ok4, hweb'⟩ : ∃ web' row4, c9 [sc, rw1, b, l6, ri, sr, fk, cm, w, none, none, none, none, none, none] (U row2 cl) = .nx [sc, rw1, b, l6, ri, sr, fk, cm, some (.d web'), none, none, none, none, none, none] (U row4 cl) ∧ RowOk row4 ∧ web' ∈ websL ++ [combD, starD] := by
    obtain ⟨q, row3, e3, ok3⟩ := is19 (sl := [sc, rw1, b, l6, ri, sr, fk, cm, w, none, none, none, none, none, none]) (S := U row2 cl) ok2 rfl rfl
    cases q with
    | false =>
      exact ⟨web, row3, z_asg (z_ifEF e3 (z_var rfl)), ok3, List.mem_append_left _ hweb⟩
    | true =>
      obtain ⟨web', row4, e4, ok4, hw⟩ := pick_ok ok3 (xs := [combD, starD]) (List.cons_ne_nil _ _) (show 2 ≤ 1000000 by decide)
      refine ⟨web', row4, z_asg (z_ifET e3 ?_), ok4, List.mem_append_right _ hw⟩
      exact z_callR (Fn := F__law_pick) (k := 1) (S1 := U row3 cl) (S2 := U row3 cl) (ds := [.list [combD, starD]]) (row := row3) (z_var rfl) (show _ = R.ok ([.list [combD, starD]].map Val.d) _ from rfl) rfl e4
  let v : Option Val := some (.d web')
  obtain ⟨row5, p11⟩ : ∃ row5, c11 [sc, rw1, b, l6, ri, sr, fk, cm, v, none, none, none, none, none, none] (U row4 cl) = .nx [sc, rw1, b, l6, ri, sr, fk, cm, v, none, none, none, none, none, none] (U row5 cl) := by
    obtain ⟨q, row5, e5, ok5⟩ := is19 (sl := [sc, rw1, b, l6, ri, sr, fk, cm, v, none, none, none, none, none, none]) (S := U row4 cl) ok4 rfl rfl
    refine ⟨row5, ?_⟩
    cases q with
    | false => exact z_ifF (z_andF e5) rfl
    | true => exact z_ifF (z_andT e5 fork_ok) rfl
  have all : D_law cl (slots N_law.length ([scrD ns].map .d)) [tabO] = .rt (.bool true) (U row5 cl) := by
    rw [D_eq]
    exact z_seq p1 (z_seq p2 (z_seq c3_ok (z_seq (c4_ok hbad) (z_seq c5_ok (z_seq c6_ok (z_seq c7_ok (z_seq p8 (z_seq p9 (z_seq (c10_ok hweb') (z_seq p11 (z_seq c12_ok (z_seq c13_ok (z_seq c14_ok (z_seq c15_ok (z_seq c16_ok (z_seq c17_ok (z_seq c18_ok c19_ok)))))))))))))))))
  show endP (D_law cl (slots N_law.length ([scrD ns].map .d)) [tabO]) = _
  rw [all]
  rfl
end K29
set_option Elab.async false
set_option linter.all false
set_option maxRecDepth 100000
set_option maxHeartbeats 4000000
namespace K29
open PySem PySem.Spec PyProof.Rows L2 L2H DV LamX LamY
def fa : List He.Fa := [.free "int", .free "len", .free "isinstance", .free "bool", .free "tuple", .int "MOST_ARROWS" 1000, .free "all", .int "MOST_NODES" 6, .free "range", .glo "BadWeb", .exc "BadWeb", .free "abs", .free "sorted", .free "max", .glo "NoTree", .exc "NoTree", .free "zip", .int "MOST_PAIRS" 500, .int "MOST_EXPONENT" 1000, .free "any", .glo "TooGreat", .exc "TooGreat", .free "min", .free "list", .free "dict", .glo "NotEven", .exc "NotEven", .free "enumerate", .int "MOST_BEATS" 40, .glo "BadTimes", .exc "BadTimes", .free "str", .int "BEAT_E" 14, .int "MOST_TOLD" 1000000, .glo "BadShares", .exc "BadShares", .int "MOST_VALUE" 1000000000000000000000000000000000000000000000000000000000000000000000000000000000000000000000000000000000000000000000000000000000000000000000000000000000000000000000000000000000000000000000000000000000000000000000000000000000000000000000000000000000000000000000000000000000000000000000000000000000000, .glo "WHOLE", .glo "NotSteady", .exc "NotSteady", .int "MOST_STEPS" 60, .glo "_law_taken", .glo "_law_pick", .glo "_law_error", .glo "is_integer", .glo "is_from", .glo "is_line", .glo "is_web", .glo "need_web", .glo "neighbours", .glo "is_simple", .glo "parts_of", .glo "arrows_of", .glo "is_a_tree", .glo "is_good_tree", .glo "need_good_tree", .glo "sides_of", .glo "sides", .glo "parted", .glo "name_of", .glo "names_of", .glo "product_of", .glo "moved", .glo "sum_of", .glo "lowest", .glo "greatest", .glo "divided", .glo "multiplied", .glo "power_of", .glo "added", .glo "new_number", .glo "behind_lot", .glo "frozen", .glo "added_by", .glo "behind_turn", .glo "lots_by_beats", .glo "beats", .glo "kind_of_tree", .glo "beat", .glo "with_names", .glo "is_steady_web", .glo "is_steady", .glo "common", .glo "is_start", .glo "need_shares", .glo "share", .glo "times_shares", .glo "need_short", .glo "product_of_shares", .glo "need_small", .glo "turn_of", .glo "plus_shares", .glo "turned_share", .glo "values_behind", .glo "steady_row", .glo "law", .glo "BadWeb", .glo "NoTree", .glo "BadTimes", .glo "NotSteady", .glo "BadShares", .glo "WebError", .glo "TooLong", .glo "TooGreat", .glo "NotEven", .exm "BadWeb" "BadWeb" true, .exm "NoTree" "BadWeb" false, .exm "NoTree" "NoTree" true, .exm "TooLong" "BadWeb" false, .exm "TooLong" "NoTree" false, .exm "TooLong" "BadTimes" false, .exm "TooLong" "NotSteady" false, .exm "TooLong" "BadShares" false, .exm "TooLong" "WebError" true, .exm "TooGreat" "BadWeb" false, .exm "TooGreat" "NoTree" false, .exm "TooGreat" "BadTimes" false, .exm "TooGreat" "NotSteady" false, .exm "TooGreat" "BadShares" false, .exm "TooGreat" "WebError" true, .exm "NotEven" "BadWeb" false, .exm "NotEven" "NoTree" false, .exm "NotEven" "BadTimes" false, .exm "NotEven" "NotSteady" false, .exm "NotEven" "BadShares" false, .exm "NotEven" "WebError" true, .exm "BadTimes" "BadWeb" false, .exm "BadTimes" "NoTree" false, .exm "BadTimes" "BadTimes" true, .exm "BadShares" "BadWeb" false, .exm "BadShares" "NoTree" false, .exm "BadShares" "BadTimes" false, .exm "BadShares" "NotSteady" false, .exm "BadShares" "BadShares" true, .exm "NotSteady" "BadWeb" false, .exm "NotSteady" "NoTree" false, .exm "NotSteady" "BadTimes" false, .exm "NotSteady" "NotSteady" true]
def d__law_taken : He.DefD := ⟨("_law_taken", none), "_law_taken", "_law_taken", defArgs s__law_taken, defBody s__law_taken, defScope s__law_taken, [], []⟩
def d__law_pick : He.DefD := ⟨("_law_pick", none), "_law_pick", "_law_pick", defArgs s__law_pick, defBody s__law_pick, defScope s__law_pick, [], []⟩
def d__law_error : He.DefD := ⟨("_law_error", none), "_law_error", "_law_error", defArgs s__law_error, defBody s__law_error, defScope s__law_error, [], []⟩
def d_is_integer : He.DefD := ⟨("is_integer", none), "is_integer", "is_integer", defArgs s_is_integer, defBody s_is_integer, defScope s_is_integer, [], []⟩
def d_is_from : He.DefD := ⟨("is_from", none), "is_from", "is_from", defArgs s_is_from, defBody s_is_from, defScope s_is_from, [], []⟩
def d_is_line : He.DefD := ⟨("is_line", none), "is_line", "is_line", defArgs s_is_line, defBody s_is_line, defScope s_is_line, [], []⟩
def d_is_web : He.DefD := ⟨("is_web", none), "is_web", "is_web", defArgs s_is_web, defBody s_is_web, defScope s_is_web, [], []⟩
def d_need_web : He.DefD := ⟨("need_web", none), "need_web", "need_web", defArgs s_need_web, defBody s_need_web, defScope s_need_web, [], []⟩
def d_neighbours : He.DefD := ⟨("neighbours", none), "neighbours", "neighbours", defArgs s_neighbours, defBody s_neighbours, defScope s_neighbours, [], []⟩
def d_is_simple : He.DefD := ⟨("is_simple", none), "is_simple", "is_simple", defArgs s_is_simple, defBody s_is_simple, defScope s_is_simple, [], []⟩
def d_parts_of : He.DefD := ⟨("parts_of", none), "parts_of", "parts_of", defArgs s_parts_of, defBody s_parts_of, defScope s_parts_of, [], []⟩
def d_arrows_of : He.DefD := ⟨("arrows_of", none), "arrows_of", "arrows_of", defArgs s_arrows_of, defBody s_arrows_of, defScope s_arrows_of, [], []⟩
def d_is_a_tree : He.DefD := ⟨("is_a_tree", none), "is_a_tree", "is_a_tree", defArgs s_is_a_tree, defBody s_is_a_tree, defScope s_is_a_tree, [], []⟩
def d_is_good_tree : He.DefD := ⟨("is_good_tree", none), "is_good_tree", "is_good_tree", defArgs s_is_good_tree, defBody s_is_good_tree, defScope s_is_good_tree, [], []⟩
def d_need_good_tree : He.DefD := ⟨("need_good_tree", none), "need_good_tree", "need_good_tree", defArgs s_need_good_tree, defBody s_need_good_tree, defScope s_need_good_tree, [], []⟩
def d_sides_of : He.DefD := ⟨("sides_of", none), "sides_of", "sides_of", defArgs s_sides_of, defBody s_sides_of, defScope s_sides_of, [], []⟩
def d_sides : He.DefD := ⟨("sides", none), "sides", "sides", defArgs s_sides, defBody s_sides, defScope s_sides, [], []⟩
def d_parted : He.DefD := ⟨("parted", none), "parted", "parted", defArgs s_parted, defBody s_parted, defScope s_parted, [], []⟩
def d_name_of : He.DefD := ⟨("name_of", none), "name_of", "name_of", defArgs s_name_of, defBody s_name_of, defScope s_name_of, [], []⟩
def d_names_of : He.DefD := ⟨("names_of", none), "names_of", "names_of", defArgs s_names_of, defBody s_names_of, defScope s_names_of, [], []⟩
def d_product_of : He.DefD := ⟨("product_of", none), "product_of", "product_of", defArgs s_product_of, defBody s_product_of, defScope s_product_of, [], []⟩
def d_moved : He.DefD := ⟨("moved", none), "moved", "moved", defArgs s_moved, defBody s_moved, defScope s_moved, [], []⟩
def d_sum_of : He.DefD := ⟨("sum_of", none), "sum_of", "sum_of", defArgs s_sum_of, defBody s_sum_of, defScope s_sum_of, [], []⟩
def d_lowest : He.DefD := ⟨("lowest", none), "lowest", "lowest", defArgs s_lowest, defBody s_lowest, defScope s_lowest, [], []⟩
def d_greatest : He.DefD := ⟨("greatest", none), "greatest", "greatest", defArgs s_greatest, defBody s_greatest, defScope s_greatest, [], []⟩
def d_divided : He.DefD := ⟨("divided", none), "divided", "divided", defArgs s_divided, defBody s_divided, defScope s_divided, [], []⟩
def d_multiplied : He.DefD := ⟨("multiplied", none), "multiplied", "multiplied", defArgs s_multiplied, defBody s_multiplied, defScope s_multiplied, [], []⟩
def d_power_of : He.DefD := ⟨("power_of", none), "power_of", "power_of", defArgs s_power_of, defBody s_power_of, defScope s_power_of, [], []⟩
def d_added : He.DefD := ⟨("added", none), "added", "added", defArgs s_added, defBody s_added, defScope s_added, [], []⟩
def d_new_number : He.DefD := ⟨("new_number", none), "new_number", "new_number", defArgs s_new_number, defBody s_new_number, defScope s_new_number, [], []⟩
def d_behind_lot : He.DefD := ⟨("behind_lot", none), "behind_lot", "behind_lot", defArgs s_behind_lot, defBody s_behind_lot, defScope s_behind_lot, [], []⟩
def d_frozen : He.DefD := ⟨("frozen", none), "frozen", "frozen", defArgs s_frozen, defBody s_frozen, defScope s_frozen, [], []⟩
def d_added_by : He.DefD := ⟨("added_by", none), "added_by", "added_by", defArgs s_added_by, defBody s_added_by, defScope s_added_by, [], []⟩
def d_behind_turn : He.DefD := ⟨("behind_turn", none), "behind_turn", "behind_turn", defArgs s_behind_turn, defBody s_behind_turn, defScope s_behind_turn, [], []⟩
def d_lots_by_beats : He.DefD := ⟨("lots_by_beats", none), "lots_by_beats", "lots_by_beats", defArgs s_lots_by_beats, defBody s_lots_by_beats, defScope s_lots_by_beats, [], []⟩
def d_beats : He.DefD := ⟨("beats", none), "beats", "beats", defArgs s_beats, defBody s_beats, defScope s_beats, [], []⟩
def d_kind_of_tree : He.DefD := ⟨("kind_of_tree", none), "kind_of_tree", "kind_of_tree", defArgs s_kind_of_tree, defBody s_kind_of_tree, defScope s_kind_of_tree, [], []⟩
def d_beat : He.DefD := ⟨("beat", none), "beat", "beat", defArgs s_beat, defBody s_beat, defScope s_beat, [], []⟩
def d_with_names : He.DefD := ⟨("with_names", none), "with_names", "with_names", defArgs s_with_names, defBody s_with_names, defScope s_with_names, [], []⟩
def d_is_steady_web : He.DefD := ⟨("is_steady_web", none), "is_steady_web", "is_steady_web", defArgs s_is_steady_web, defBody s_is_steady_web, defScope s_is_steady_web, [], []⟩
def d_is_steady : He.DefD := ⟨("is_steady", none), "is_steady", "is_steady", defArgs s_is_steady, defBody s_is_steady, defScope s_is_steady, [], []⟩
def d_common : He.DefD := ⟨("common", none), "common", "common", defArgs s_common, defBody s_common, defScope s_common, [], []⟩
def d_is_start : He.DefD := ⟨("is_start", none), "is_start", "is_start", defArgs s_is_start, defBody s_is_start, defScope s_is_start, [], []⟩
def d_need_shares : He.DefD := ⟨("need_shares", none), "need_shares", "need_shares", defArgs s_need_shares, defBody s_need_shares, defScope s_need_shares, [], []⟩
def d_share : He.DefD := ⟨("share", none), "share", "share", defArgs s_share, defBody s_share, defScope s_share, [], []⟩
def d_times_shares : He.DefD := ⟨("times_shares", none), "times_shares", "times_shares", defArgs s_times_shares, defBody s_times_shares, defScope s_times_shares, [], []⟩
def d_need_short : He.DefD := ⟨("need_short", none), "need_short", "need_short", defArgs s_need_short, defBody s_need_short, defScope s_need_short, [], []⟩
def d_product_of_shares : He.DefD := ⟨("product_of_shares", none), "product_of_shares", "product_of_shares", defArgs s_product_of_shares, defBody s_product_of_shares, defScope s_product_of_shares, [], []⟩
def d_need_small : He.DefD := ⟨("need_small", none), "need_small", "need_small", defArgs s_need_small, defBody s_need_small, defScope s_need_small, [], []⟩
def d_turn_of : He.DefD := ⟨("turn_of", none), "turn_of", "turn_of", defArgs s_turn_of, defBody s_turn_of, defScope s_turn_of, [], []⟩
def d_plus_shares : He.DefD := ⟨("plus_shares", none), "plus_shares", "plus_shares", defArgs s_plus_shares, defBody s_plus_shares, defScope s_plus_shares, [], []⟩
def d_turned_share : He.DefD := ⟨("turned_share", none), "turned_share", "turned_share", defArgs s_turned_share, defBody s_turned_share, defScope s_turned_share, [], []⟩
def d_values_behind : He.DefD := ⟨("values_behind", none), "values_behind", "values_behind", defArgs s_values_behind, defBody s_values_behind, defScope s_values_behind, [], []⟩
def d_steady_row : He.DefD := ⟨("steady_row", none), "steady_row", "steady_row", defArgs s_steady_row, defBody s_steady_row, defScope s_steady_row, [], []⟩
def d_law : He.DefD := ⟨("law", none), "law", "law", defArgs s_law, defBody s_law, defScope s_law, [], []⟩
def fn : List He.DefD := [d__law_taken, d__law_pick, d__law_error, d_is_integer, d_is_from, d_is_line, d_is_web, d_need_web, d_neighbours, d_is_simple, d_parts_of, d_arrows_of, d_is_a_tree, d_is_good_tree, d_need_good_tree, d_sides_of, d_sides, d_parted, d_name_of, d_names_of, d_product_of, d_moved, d_sum_of, d_lowest, d_greatest, d_divided, d_multiplied, d_power_of, d_added, d_new_number, d_behind_lot, d_frozen, d_added_by, d_behind_turn, d_lots_by_beats, d_beats, d_kind_of_tree, d_beat, d_with_names, d_is_steady_web, d_is_steady, d_common, d_is_start, d_need_shares, d_share, d_times_shares, d_need_short, d_product_of_shares, d_need_small, d_turn_of, d_plus_shares, d_turned_share, d_values_behind, d_steady_row, d_law]
def ts : List (Str × List Int) := [("WHOLE", [1, 1])]
def tf : List He.Defn := [("law", none)]
theorem facts (hlaw : ∀ ns : List Int, ns.length ≤ 63 → ∀ cl, endP (D_law cl (slots N_law.length ([scrD ns].map .d)) [.gh (.tab "law")]) = .ok (.bool true)) {w : World} {K : PySem.W.Frag} {h : Heap} {mg : Str → Option Value} {f : Addr} (X : K.In h) (G : h.Ns mainGlobals mg) (hfa : mg ("law" : Str) = some (.ref f)) (cu : SaysV fa fn ts tf h K) :
    LamX.LawAtS PySem.Challenge.rw_dartwebs_k29_beats_refused w K (L2N.CX (PySem.Challenge.rw_dartwebs_k29_beats_refused).prog w) 10 63 "_law_script" mg f h := by
  have c := cu.u.d
  have T : Tx K mg := ⟨He.free_ok X G (c.fact 0 (f := .free "int") rfl), He.free_ok X G (c.fact 1 (f := .free "len") rfl), He.free_ok X G (c.fact 2 (f := .free "isinstance") rfl), He.free_ok X G (c.fact 3 (f := .free "bool") rfl), He.free_ok X G (c.fact 4 (f := .free "tuple") rfl), He.int_ok X G (c.fact 5 (f := .int "MOST_ARROWS" 1000) rfl), He.free_ok X G (c.fact 6 (f := .free "all") rfl), He.int_ok X G (c.fact 7 (f := .int "MOST_NODES" 6) rfl), He.free_ok X G (c.fact 8 (f := .free "range") rfl), ⟨_, He.glo_ok X G (c.fact 9 (f := .glo "BadWeb") rfl), He.exc_ok (c.fact 10 (f := .exc "BadWeb") rfl)⟩, He.free_ok X G (c.fact 11 (f := .free "abs") rfl), He.free_ok X G (c.fact 12 (f := .free "sorted") rfl), He.free_ok X G (c.fact 13 (f := .free "max") rfl), ⟨_, He.glo_ok X G (c.fact 14 (f := .glo "NoTree") rfl), He.exc_ok (c.fact 15 (f := .exc "NoTree") rfl)⟩, He.free_ok X G (c.fact 16 (f := .free "zip") rfl), He.int_ok X G (c.fact 17 (f := .int "MOST_PAIRS" 500) rfl), He.int_ok X G (c.fact 18 (f := .int "MOST_EXPONENT" 1000) rfl), He.free_ok X G (c.fact 19 (f := .free "any") rfl), ⟨_, He.glo_ok X G (c.fact 20 (f := .glo "TooGreat") rfl), He.exc_ok (c.fact 21 (f := .exc "TooGreat") rfl)⟩, He.free_ok X G (c.fact 22 (f := .free "min") rfl), He.free_ok X G (c.fact 23 (f := .free "list") rfl), He.free_ok X G (c.fact 24 (f := .free "dict") rfl), ⟨_, He.glo_ok X G (c.fact 25 (f := .glo "NotEven") rfl), He.exc_ok (c.fact 26 (f := .exc "NotEven") rfl)⟩, He.free_ok X G (c.fact 27 (f := .free "enumerate") rfl), He.int_ok X G (c.fact 28 (f := .int "MOST_BEATS" 40) rfl), ⟨_, He.glo_ok X G (c.fact 29 (f := .glo "BadTimes") rfl), He.exc_ok (c.fact 30 (f := .exc "BadTimes") rfl)⟩, He.free_ok X G (c.fact 31 (f := .free "str") rfl), He.int_ok X G (c.fact 32 (f := .int "BEAT_E" 14) rfl), He.int_ok X G (c.fact 33 (f := .int "MOST_TOLD" 1000000) rfl), ⟨_, He.glo_ok X G (c.fact 34 (f := .glo "BadShares") rfl), He.exc_ok (c.fact 35 (f := .exc "BadShares") rfl)⟩, He.int_ok X G (c.fact 36 (f := .int "MOST_VALUE" 1000000000000000000000000000000000000000000000000000000000000000000000000000000000000000000000000000000000000000000000000000000000000000000000000000000000000000000000000000000000000000000000000000000000000000000000000000000000000000000000000000000000000000000000000000000000000000000000000000000000000) rfl), ⟨_, He.glo_ok X G (c.fact 37 (f := .glo "WHOLE") rfl), fun H => cu.u.tup 0 rfl H⟩, ⟨_, He.glo_ok X G (c.fact 38 (f := .glo "NotSteady") rfl), He.exc_ok (c.fact 39 (f := .exc "NotSteady") rfl)⟩, He.int_ok X G (c.fact 40 (f := .int "MOST_STEPS" 60) rfl)⟩
  obtain ⟨fd__law_taken, E__law_taken⟩ := c.def_ 0 (d := d__law_taken) rfl
  have g__law_taken := He.glo_ok X G (c.fact 41 (f := .glo "_law_taken") rfl)
  obtain ⟨fd__law_pick, E__law_pick⟩ := c.def_ 1 (d := d__law_pick) rfl
  have g__law_pick := He.glo_ok X G (c.fact 42 (f := .glo "_law_pick") rfl)
  obtain ⟨fd__law_error, E__law_error⟩ := c.def_ 2 (d := d__law_error) rfl
  have g__law_error := He.glo_ok X G (c.fact 43 (f := .glo "_law_error") rfl)
  obtain ⟨fd_is_integer, E_is_integer⟩ := c.def_ 3 (d := d_is_integer) rfl
  have g_is_integer := He.glo_ok X G (c.fact 44 (f := .glo "is_integer") rfl)
  obtain ⟨fd_is_from, E_is_from⟩ := c.def_ 4 (d := d_is_from) rfl
  have g_is_from := He.glo_ok X G (c.fact 45 (f := .glo "is_from") rfl)
  obtain ⟨fd_is_line, E_is_line⟩ := c.def_ 5 (d := d_is_line) rfl
  have g_is_line := He.glo_ok X G (c.fact 46 (f := .glo "is_line") rfl)
  obtain ⟨fd_is_web, E_is_web⟩ := c.def_ 6 (d := d_is_web) rfl
  have g_is_web := He.glo_ok X G (c.fact 47 (f := .glo "is_web") rfl)
  obtain ⟨fd_need_web, E_need_web⟩ := c.def_ 7 (d := d_need_web) rfl
  have g_need_web := He.glo_ok X G (c.fact 48 (f := .glo "need_web") rfl)
  obtain ⟨fd_neighbours, E_neighbours⟩ := c.def_ 8 (d := d_neighbours) rfl
  have g_neighbours := He.glo_ok X G (c.fact 49 (f := .glo "neighbours") rfl)
  obtain ⟨fd_is_simple, E_is_simple⟩ := c.def_ 9 (d := d_is_simple) rfl
  have g_is_simple := He.glo_ok X G (c.fact 50 (f := .glo "is_simple") rfl)
  obtain ⟨fd_parts_of, E_parts_of⟩ := c.def_ 10 (d := d_parts_of) rfl
  have g_parts_of := He.glo_ok X G (c.fact 51 (f := .glo "parts_of") rfl)
  obtain ⟨fd_arrows_of, E_arrows_of⟩ := c.def_ 11 (d := d_arrows_of) rfl
  have g_arrows_of := He.glo_ok X G (c.fact 52 (f := .glo "arrows_of") rfl)
  obtain ⟨fd_is_a_tree, E_is_a_tree⟩ := c.def_ 12 (d := d_is_a_tree) rfl
  have g_is_a_tree := He.glo_ok X G (c.fact 53 (f := .glo "is_a_tree") rfl)
  obtain ⟨fd_is_good_tree, E_is_good_tree⟩ := c.def_ 13 (d := d_is_good_tree) rfl
  have g_is_good_tree := He.glo_ok X G (c.fact 54 (f := .glo "is_good_tree") rfl)
  obtain ⟨fd_need_good_tree, E_need_good_tree⟩ := c.def_ 14 (d := d_need_good_tree) rfl
  have g_need_good_tree := He.glo_ok X G (c.fact 55 (f := .glo "need_good_tree") rfl)
  obtain ⟨fd_sides_of, E_sides_of⟩ := c.def_ 15 (d := d_sides_of) rfl
  have g_sides_of := He.glo_ok X G (c.fact 56 (f := .glo "sides_of") rfl)
  obtain ⟨fd_sides, E_sides⟩ := c.def_ 16 (d := d_sides) rfl
  have g_sides := He.glo_ok X G (c.fact 57 (f := .glo "sides") rfl)
  obtain ⟨fd_parted, E_parted⟩ := c.def_ 17 (d := d_parted) rfl
  have g_parted := He.glo_ok X G (c.fact 58 (f := .glo "parted") rfl)
  obtain ⟨fd_name_of, E_name_of⟩ := c.def_ 18 (d := d_name_of) rfl
  have g_name_of := He.glo_ok X G (c.fact 59 (f := .glo "name_of") rfl)
  obtain ⟨fd_names_of, E_names_of⟩ := c.def_ 19 (d := d_names_of) rfl
  have g_names_of := He.glo_ok X G (c.fact 60 (f := .glo "names_of") rfl)
  obtain ⟨fd_product_of, E_product_of⟩ := c.def_ 20 (d := d_product_of) rfl
  have g_product_of := He.glo_ok X G (c.fact 61 (f := .glo "product_of") rfl)
  obtain ⟨fd_moved, E_moved⟩ := c.def_ 21 (d := d_moved) rfl
  have g_moved := He.glo_ok X G (c.fact 62 (f := .glo "moved") rfl)
  obtain ⟨fd_sum_of, E_sum_of⟩ := c.def_ 22 (d := d_sum_of) rfl
  have g_sum_of := He.glo_ok X G (c.fact 63 (f := .glo "sum_of") rfl)
  obtain ⟨fd_lowest, E_lowest⟩ := c.def_ 23 (d := d_lowest) rfl
  have g_lowest := He.glo_ok X G (c.fact 64 (f := .glo "lowest") rfl)
  obtain ⟨fd_greatest, E_greatest⟩ := c.def_ 24 (d := d_greatest) rfl
  have g_greatest := He.glo_ok X G (c.fact 65 (f := .glo "greatest") rfl)
  obtain ⟨fd_divided, E_divided⟩ := c.def_ 25 (d := d_divided) rfl
  have g_divided := He.glo_ok X G (c.fact 66 (f := .glo "divided") rfl)
  obtain ⟨fd_multiplied, E_multiplied⟩ := c.def_ 26 (d := d_multiplied) rfl
  have g_multiplied := He.glo_ok X G (c.fact 67 (f := .glo "multiplied") rfl)
  obtain ⟨fd_power_of, E_power_of⟩ := c.def_ 27 (d := d_power_of) rfl
  have g_power_of := He.glo_ok X G (c.fact 68 (f := .glo "power_of") rfl)
  obtain ⟨fd_added, E_added⟩ := c.def_ 28 (d := d_added) rfl
  have g_added := He.glo_ok X G (c.fact 69 (f := .glo "added") rfl)
  obtain ⟨fd_new_number, E_new_number⟩ := c.def_ 29 (d := d_new_number) rfl
  have g_new_number := He.glo_ok X G (c.fact 70 (f := .glo "new_number") rfl)
  obtain ⟨fd_behind_lot, E_behind_lot⟩ := c.def_ 30 (d := d_behind_lot) rfl
  have g_behind_lot := He.glo_ok X G (c.fact 71 (f := .glo "behind_lot") rfl)
  obtain ⟨fd_frozen, E_frozen⟩ := c.def_ 31 (d := d_frozen) rfl
  have g_frozen := He.glo_ok X G (c.fact 72 (f := .glo "frozen") rfl)
  obtain ⟨fd_added_by, E_added_by⟩ := c.def_ 32 (d := d_added_by) rfl
  have g_added_by := He.glo_ok X G (c.fact 73 (f := .glo "added_by") rfl)
  obtain ⟨fd_behind_turn, E_behind_turn⟩ := c.def_ 33 (d := d_behind_turn) rfl
  have g_behind_turn := He.glo_ok X G (c.fact 74 (f := .glo "behind_turn") rfl)
  obtain ⟨fd_lots_by_beats, E_lots_by_beats⟩ := c.def_ 34 (d := d_lots_by_beats) rfl
  have g_lots_by_beats := He.glo_ok X G (c.fact 75 (f := .glo "lots_by_beats") rfl)
  obtain ⟨fd_beats, E_beats⟩ := c.def_ 35 (d := d_beats) rfl
  have g_beats := He.glo_ok X G (c.fact 76 (f := .glo "beats") rfl)
  obtain ⟨fd_kind_of_tree, E_kind_of_tree⟩ := c.def_ 36 (d := d_kind_of_tree) rfl
  have g_kind_of_tree := He.glo_ok X G (c.fact 77 (f := .glo "kind_of_tree") rfl)
  obtain ⟨fd_beat, E_beat⟩ := c.def_ 37 (d := d_beat) rfl
  have g_beat := He.glo_ok X G (c.fact 78 (f := .glo "beat") rfl)
  obtain ⟨fd_with_names, E_with_names⟩ := c.def_ 38 (d := d_with_names) rfl
  have g_with_names := He.glo_ok X G (c.fact 79 (f := .glo "with_names") rfl)
  obtain ⟨fd_is_steady_web, E_is_steady_web⟩ := c.def_ 39 (d := d_is_steady_web) rfl
  have g_is_steady_web := He.glo_ok X G (c.fact 80 (f := .glo "is_steady_web") rfl)
  obtain ⟨fd_is_steady, E_is_steady⟩ := c.def_ 40 (d := d_is_steady) rfl
  have g_is_steady := He.glo_ok X G (c.fact 81 (f := .glo "is_steady") rfl)
  obtain ⟨fd_common, E_common⟩ := c.def_ 41 (d := d_common) rfl
  have g_common := He.glo_ok X G (c.fact 82 (f := .glo "common") rfl)
  obtain ⟨fd_is_start, E_is_start⟩ := c.def_ 42 (d := d_is_start) rfl
  have g_is_start := He.glo_ok X G (c.fact 83 (f := .glo "is_start") rfl)
  obtain ⟨fd_need_shares, E_need_shares⟩ := c.def_ 43 (d := d_need_shares) rfl
  have g_need_shares := He.glo_ok X G (c.fact 84 (f := .glo "need_shares") rfl)
  obtain ⟨fd_share, E_share⟩ := c.def_ 44 (d := d_share) rfl
  have g_share := He.glo_ok X G (c.fact 85 (f := .glo "share") rfl)
  obtain ⟨fd_times_shares, E_times_shares⟩ := c.def_ 45 (d := d_times_shares) rfl
  have g_times_shares := He.glo_ok X G (c.fact 86 (f := .glo "times_shares") rfl)
  obtain ⟨fd_need_short, E_need_short⟩ := c.def_ 46 (d := d_need_short) rfl
  have g_need_short := He.glo_ok X G (c.fact 87 (f := .glo "need_short") rfl)
  obtain ⟨fd_product_of_shares, E_product_of_shares⟩ := c.def_ 47 (d := d_product_of_shares) rfl
  have g_product_of_shares := He.glo_ok X G (c.fact 88 (f := .glo "product_of_shares") rfl)
  obtain ⟨fd_need_small, E_need_small⟩ := c.def_ 48 (d := d_need_small) rfl
  have g_need_small := He.glo_ok X G (c.fact 89 (f := .glo "need_small") rfl)
  obtain ⟨fd_turn_of, E_turn_of⟩ := c.def_ 49 (d := d_turn_of) rfl
  have g_turn_of := He.glo_ok X G (c.fact 90 (f := .glo "turn_of") rfl)
  obtain ⟨fd_plus_shares, E_plus_shares⟩ := c.def_ 50 (d := d_plus_shares) rfl
  have g_plus_shares := He.glo_ok X G (c.fact 91 (f := .glo "plus_shares") rfl)
  obtain ⟨fd_turned_share, E_turned_share⟩ := c.def_ 51 (d := d_turned_share) rfl
  have g_turned_share := He.glo_ok X G (c.fact 92 (f := .glo "turned_share") rfl)
  obtain ⟨fd_values_behind, E_values_behind⟩ := c.def_ 52 (d := d_values_behind) rfl
  have g_values_behind := He.glo_ok X G (c.fact 93 (f := .glo "values_behind") rfl)
  obtain ⟨fd_steady_row, E_steady_row⟩ := c.def_ 53 (d := d_steady_row) rfl
  have g_steady_row := He.glo_ok X G (c.fact 94 (f := .glo "steady_row") rfl)
  obtain ⟨fd_law, E_law⟩ := c.def_ 54 (d := d_law) rfl
  have g_law := He.glo_ok X G (c.fact 95 (f := .glo "law") rfl)
  have gc_BadWeb := He.glo_ok X G (c.fact 96 (f := .glo "BadWeb") rfl)
  have gc_NoTree := He.glo_ok X G (c.fact 97 (f := .glo "NoTree") rfl)
  have gc_BadTimes := He.glo_ok X G (c.fact 98 (f := .glo "BadTimes") rfl)
  have gc_NotSteady := He.glo_ok X G (c.fact 99 (f := .glo "NotSteady") rfl)
  have gc_BadShares := He.glo_ok X G (c.fact 100 (f := .glo "BadShares") rfl)
  have gc_WebError := He.glo_ok X G (c.fact 101 (f := .glo "WebError") rfl)
  have gc_TooLong := He.glo_ok X G (c.fact 102 (f := .glo "TooLong") rfl)
  have gc_TooGreat := He.glo_ok X G (c.fact 103 (f := .glo "TooGreat") rfl)
  have gc_NotEven := He.glo_ok X G (c.fact 104 (f := .glo "NotEven") rfl)
  have ge_0 := He.exm_ok (c.fact 105 (f := .exm "BadWeb" "BadWeb" true) rfl)
  have ge_1 := He.exm_ok (c.fact 106 (f := .exm "NoTree" "BadWeb" false) rfl)
  have ge_2 := He.exm_ok (c.fact 107 (f := .exm "NoTree" "NoTree" true) rfl)
  have ge_3 := He.exm_ok (c.fact 108 (f := .exm "TooLong" "BadWeb" false) rfl)
  have ge_4 := He.exm_ok (c.fact 109 (f := .exm "TooLong" "NoTree" false) rfl)
  have ge_5 := He.exm_ok (c.fact 110 (f := .exm "TooLong" "BadTimes" false) rfl)
  have ge_6 := He.exm_ok (c.fact 111 (f := .exm "TooLong" "NotSteady" false) rfl)
  have ge_7 := He.exm_ok (c.fact 112 (f := .exm "TooLong" "BadShares" false) rfl)
  have ge_8 := He.exm_ok (c.fact 113 (f := .exm "TooLong" "WebError" true) rfl)
  have ge_9 := He.exm_ok (c.fact 114 (f := .exm "TooGreat" "BadWeb" false) rfl)
  have ge_10 := He.exm_ok (c.fact 115 (f := .exm "TooGreat" "NoTree" false) rfl)
  have ge_11 := He.exm_ok (c.fact 116 (f := .exm "TooGreat" "BadTimes" false) rfl)
  have ge_12 := He.exm_ok (c.fact 117 (f := .exm "TooGreat" "NotSteady" false) rfl)
  have ge_13 := He.exm_ok (c.fact 118 (f := .exm "TooGreat" "BadShares" false) rfl)
  have ge_14 := He.exm_ok (c.fact 119 (f := .exm "TooGreat" "WebError" true) rfl)
  have ge_15 := He.exm_ok (c.fact 120 (f := .exm "NotEven" "BadWeb" false) rfl)
  have ge_16 := He.exm_ok (c.fact 121 (f := .exm "NotEven" "NoTree" false) rfl)
  have ge_17 := He.exm_ok (c.fact 122 (f := .exm "NotEven" "BadTimes" false) rfl)
  have ge_18 := He.exm_ok (c.fact 123 (f := .exm "NotEven" "NotSteady" false) rfl)
  have ge_19 := He.exm_ok (c.fact 124 (f := .exm "NotEven" "BadShares" false) rfl)
  have ge_20 := He.exm_ok (c.fact 125 (f := .exm "NotEven" "WebError" true) rfl)
  have ge_21 := He.exm_ok (c.fact 126 (f := .exm "BadTimes" "BadWeb" false) rfl)
  have ge_22 := He.exm_ok (c.fact 127 (f := .exm "BadTimes" "NoTree" false) rfl)
  have ge_23 := He.exm_ok (c.fact 128 (f := .exm "BadTimes" "BadTimes" true) rfl)
  have ge_24 := He.exm_ok (c.fact 129 (f := .exm "BadShares" "BadWeb" false) rfl)
  have ge_25 := He.exm_ok (c.fact 130 (f := .exm "BadShares" "NoTree" false) rfl)
  have ge_26 := He.exm_ok (c.fact 131 (f := .exm "BadShares" "BadTimes" false) rfl)
  have ge_27 := He.exm_ok (c.fact 132 (f := .exm "BadShares" "NotSteady" false) rfl)
  have ge_28 := He.exm_ok (c.fact 133 (f := .exm "BadShares" "BadShares" true) rfl)
  have ge_29 := He.exm_ok (c.fact 134 (f := .exm "NotSteady" "BadWeb" false) rfl)
  have ge_30 := He.exm_ok (c.fact 135 (f := .exm "NotSteady" "NoTree" false) rfl)
  have ge_31 := He.exm_ok (c.fact 136 (f := .exm "NotSteady" "BadTimes" false) rfl)
  have ge_32 := He.exm_ok (c.fact 137 (f := .exm "NotSteady" "NotSteady" true) rfl)
  cases hfa.symm.trans g_law
  have hP := cu.hd ("law", none) (by decide)
  refine ⟨fd_law, [He.cT K ("law", none)], spL K "law" (He.cT K ("law", none)).2 N_law.length D_law, fun p hp => ?_, fun p hp => ?_, fun p hp => ?_, fun s v => FunD.bindsA (ps := ["_law_script"]) E_law (fun _ _ _ _ _ _ us hl => match us, hl with | [_], _ => rfl) s [v] rfl, fun H a ns hl _ hT hS => law_spL hS (hT _ List.mem_cons_self) (hlaw ns hl), fun base _ _ hTB => ?_⟩
  · rw [List.mem_singleton.mp hp]; exact cu.empty _ (by decide)
  · rw [List.mem_singleton.mp hp]; exact cu.out _ (by decide)
  · rw [List.mem_singleton.mp hp]; exact PySem.W.codeHd_of_K X hP
  have C__law_taken : CalR (PySem.Challenge.rw_dartwebs_k29_beats_refused).prog w K mg base "_law_taken" 1 ["_law_row", "_law_many"] F__law_taken := ok__law_taken T  E__law_taken g__law_taken
  have C__law_pick : CalR (PySem.Challenge.rw_dartwebs_k29_beats_refused).prog w K mg base "_law_pick" 2 ["_law_row", "_law_things"] F__law_pick := ok__law_pick T C__law_taken E__law_pick g__law_pick
  have G__law_error : ErrG (PySem.Challenge.rw_dartwebs_k29_beats_refused).prog w K mg base "_law_error" (l__law_error K) "" := G_of__law_error E__law_error g__law_error (fun x hx => by
    simp only [hs__law_error, List.map_cons, List.map_nil, List.mem_cons, List.not_mem_nil, or_false] at hx
    rcases hx with rfl | rfl | rfl | rfl | rfl | rfl
    · exact gc_BadWeb
    · exact gc_NoTree
    · exact gc_BadTimes
    · exact gc_NotSteady
    · exact gc_BadShares
    · exact gc_WebError)
  have cl__law_error : ClsOk K mg (l__law_error K) tab__law_error := clsOk_of fs__law_error tb__law_error (fun x r hx => by
    unfold tab__law_error at hx
    by_cases e : x = "BadWeb"
    · subst e; exact gc_BadWeb
    rw [if_neg e] at hx; clear e
    by_cases e : x = "NoTree"
    · subst e; exact gc_NoTree
    rw [if_neg e] at hx; clear e
    by_cases e : x = "TooLong"
    · subst e; exact gc_TooLong
    rw [if_neg e] at hx; clear e
    by_cases e : x = "TooGreat"
    · subst e; exact gc_TooGreat
    rw [if_neg e] at hx; clear e
    by_cases e : x = "NotEven"
    · subst e; exact gc_NotEven
    rw [if_neg e] at hx; clear e
    by_cases e : x = "BadTimes"
    · subst e; exact gc_BadTimes
    rw [if_neg e] at hx; clear e
    by_cases e : x = "BadShares"
    · subst e; exact gc_BadShares
    rw [if_neg e] at hx; clear e
    by_cases e : x = "NotSteady"
    · subst e; exact gc_NotSteady
    rw [if_neg e] at hx; clear e
    cases hx) (fun x y b hx => by
    simp only [fs__law_error, List.mem_cons, List.not_mem_nil, or_false, Prod.mk.injEq] at hx
    rcases hx with ⟨rfl, rfl, rfl⟩ | ⟨rfl, rfl, rfl⟩ | ⟨rfl, rfl, rfl⟩ | ⟨rfl, rfl, rfl⟩ | ⟨rfl, rfl, rfl⟩ | ⟨rfl, rfl, rfl⟩ | ⟨rfl, rfl, rfl⟩ | ⟨rfl, rfl, rfl⟩ | ⟨rfl, rfl, rfl⟩ | ⟨rfl, rfl, rfl⟩ | ⟨rfl, rfl, rfl⟩ | ⟨rfl, rfl, rfl⟩ | ⟨rfl, rfl, rfl⟩ | ⟨rfl, rfl, rfl⟩ | ⟨rfl, rfl, rfl⟩ | ⟨rfl, rfl, rfl⟩ | ⟨rfl, rfl, rfl⟩ | ⟨rfl, rfl, rfl⟩ | ⟨rfl, rfl, rfl⟩ | ⟨rfl, rfl, rfl⟩ | ⟨rfl, rfl, rfl⟩ | ⟨rfl, rfl, rfl⟩ | ⟨rfl, rfl, rfl⟩ | ⟨rfl, rfl, rfl⟩ | ⟨rfl, rfl, rfl⟩ | ⟨rfl, rfl, rfl⟩ | ⟨rfl, rfl, rfl⟩ | ⟨rfl, rfl, rfl⟩ | ⟨rfl, rfl, rfl⟩ | ⟨rfl, rfl, rfl⟩ | ⟨rfl, rfl, rfl⟩ | ⟨rfl, rfl, rfl⟩ | ⟨rfl, rfl, rfl⟩
    · exact ge_0
    · exact ge_1
    · exact ge_2
    · exact ge_3
    · exact ge_4
    · exact ge_5
    · exact ge_6
    · exact ge_7
    · exact ge_8
    · exact ge_9
    · exact ge_10
    · exact ge_11
    · exact ge_12
    · exact ge_13
    · exact ge_14
    · exact ge_15
    · exact ge_16
    · exact ge_17
    · exact ge_18
    · exact ge_19
    · exact ge_20
    · exact ge_21
    · exact ge_22
    · exact ge_23
    · exact ge_24
    · exact ge_25
    · exact ge_26
    · exact ge_27
    · exact ge_28
    · exact ge_29
    · exact ge_30
    · exact ge_31
    · exact ge_32)
  have C_is_integer : CalP (PySem.Challenge.rw_dartwebs_k29_beats_refused).prog w K mg base "is_integer" 1 ["value"] F_is_integer := ok_is_integer T  E_is_integer g_is_integer
  have C_is_from : CalP (PySem.Challenge.rw_dartwebs_k29_beats_refused).prog w K mg base "is_from" 2 ["value", "low", "high"] F_is_from := ok_is_from T C_is_integer E_is_from g_is_from
  have C_is_line : CalP (PySem.Challenge.rw_dartwebs_k29_beats_refused).prog w K mg base "is_line" 3 ["n", "value"] F_is_line := ok_is_line T C_is_from E_is_line g_is_line
  have C_is_web : CalP (PySem.Challenge.rw_dartwebs_k29_beats_refused).prog w K mg base "is_web" 4 ["value"] F_is_web := ok_is_web T C_is_line E_is_web g_is_web
  have C_need_web : CalP (PySem.Challenge.rw_dartwebs_k29_beats_refused).prog w K mg base "need_web" 5 ["value"] F_need_web := ok_need_web T C_is_web E_need_web g_need_web
  have C_neighbours : CalP (PySem.Challenge.rw_dartwebs_k29_beats_refused).prog w K mg base "neighbours" 1 ["web", "x"] F_neighbours := ok_neighbours T  E_neighbours g_neighbours
  have C_is_simple : CalP (PySem.Challenge.rw_dartwebs_k29_beats_refused).prog w K mg base "is_simple" 1 ["web"] F_is_simple := ok_is_simple T  E_is_simple g_is_simple
  have C_parts_of : CalP (PySem.Challenge.rw_dartwebs_k29_beats_refused).prog w K mg base "parts_of" 2 ["web"] F_parts_of := ok_parts_of T C_neighbours E_parts_of g_parts_of
  have C_arrows_of : CalP (PySem.Challenge.rw_dartwebs_k29_beats_refused).prog w K mg base "arrows_of" 1 ["web"] F_arrows_of := ok_arrows_of T  E_arrows_of g_arrows_of
  have C_is_a_tree : CalP (PySem.Challenge.rw_dartwebs_k29_beats_refused).prog w K mg base "is_a_tree" 3 ["web"] F_is_a_tree := ok_is_a_tree T C_is_simple C_parts_of C_arrows_of E_is_a_tree g_is_a_tree
  have C_is_good_tree : CalP (PySem.Challenge.rw_dartwebs_k29_beats_refused).prog w K mg base "is_good_tree" 4 ["web"] F_is_good_tree := ok_is_good_tree T C_neighbours C_is_a_tree E_is_good_tree g_is_good_tree
  have C_need_good_tree : CalP (PySem.Challenge.rw_dartwebs_k29_beats_refused).prog w K mg base "need_good_tree" 5 ["web"] F_need_good_tree := ok_need_good_tree T C_is_good_tree E_need_good_tree g_need_good_tree
  have C_sides_of : CalP (PySem.Challenge.rw_dartwebs_k29_beats_refused).prog w K mg base "sides_of" 2 ["web"] F_sides_of := ok_sides_of T C_neighbours E_sides_of g_sides_of
  have C_sides : CalP (PySem.Challenge.rw_dartwebs_k29_beats_refused).prog w K mg base "sides" 6 ["web"] F_sides := ok_sides T C_need_web C_need_good_tree C_sides_of E_sides g_sides
  have C_parted : CalP (PySem.Challenge.rw_dartwebs_k29_beats_refused).prog w K mg base "parted" 3 ["web"] F_parted := ok_parted T C_sides_of E_parted g_parted
  have C_name_of : CalP (PySem.Challenge.rw_dartwebs_k29_beats_refused).prog w K mg base "name_of" 1 ["n", "x"] F_name_of := ok_name_of T  E_name_of g_name_of
  have C_names_of : CalP (PySem.Challenge.rw_dartwebs_k29_beats_refused).prog w K mg base "names_of" 2 ["n"] F_names_of := ok_names_of T C_name_of E_names_of g_names_of
  have C_product_of : CalP (PySem.Challenge.rw_dartwebs_k29_beats_refused).prog w K mg base "product_of" 1 ["one", "other"] F_product_of := ok_product_of T  E_product_of g_product_of
  have C_moved : CalN (PySem.Challenge.rw_dartwebs_k29_beats_refused).prog w K mg base "moved" 2 ["one", "by"] F_moved := ok_moved T C_product_of E_moved g_moved
  have C_sum_of : CalP (PySem.Challenge.rw_dartwebs_k29_beats_refused).prog w K mg base "sum_of" 1 ["counts"] F_sum_of := ok_sum_of T  E_sum_of g_sum_of
  have C_lowest : CalP (PySem.Challenge.rw_dartwebs_k29_beats_refused).prog w K mg base "lowest" 1 ["one"] F_lowest := ok_lowest T  E_lowest g_lowest
  have C_greatest : CalP (PySem.Challenge.rw_dartwebs_k29_beats_refused).prog w K mg base "greatest" 1 ["counts"] F_greatest := ok_greatest T  E_greatest g_greatest
  have C_divided : CalP (PySem.Challenge.rw_dartwebs_k29_beats_refused).prog w K mg base "divided" 3 ["one", "other"] F_divided := ok_divided T C_moved C_sum_of C_lowest C_product_of C_greatest E_divided g_divided
  have C_multiplied : CalP (PySem.Challenge.rw_dartwebs_k29_beats_refused).prog w K mg base "multiplied" 2 ["one", "other"] F_multiplied := ok_multiplied T C_sum_of C_product_of E_multiplied g_multiplied
  have C_power_of : CalP (PySem.Challenge.rw_dartwebs_k29_beats_refused).prog w K mg base "power_of" 3 ["one", "many", "n"] F_power_of := ok_power_of T C_multiplied E_power_of g_power_of
  have C_added : CalP (PySem.Challenge.rw_dartwebs_k29_beats_refused).prog w K mg base "added" 2 ["one", "other"] F_added := ok_added T C_sum_of E_added g_added
  have C_new_number : CalP (PySem.Challenge.rw_dartwebs_k29_beats_refused).prog w K mg base "new_number" 4 ["web", "lot", "x"] F_new_number := ok_new_number T C_divided C_power_of C_added C_multiplied E_new_number g_new_number
  have C_behind_lot : CalP (PySem.Challenge.rw_dartwebs_k29_beats_refused).prog w K mg base "behind_lot" 5 ["web", "lot", "x"] F_behind_lot := ok_behind_lot T C_new_number E_behind_lot g_behind_lot
  have C_frozen : CalP (PySem.Challenge.rw_dartwebs_k29_beats_refused).prog w K mg base "frozen" 1 ["table"] F_frozen := ok_frozen T  E_frozen g_frozen
  have C_added_by : CalP (PySem.Challenge.rw_dartwebs_k29_beats_refused).prog w K mg base "added_by" 1 ["left", "right"] F_added_by := ok_added_by T  E_added_by g_added_by
  have C_behind_turn : CalP (PySem.Challenge.rw_dartwebs_k29_beats_refused).prog w K mg base "behind_turn" 2 ["web", "x"] F_behind_turn := ok_behind_turn T C_frozen C_added_by E_behind_turn g_behind_turn
  have C_lots_by_beats : CalP (PySem.Challenge.rw_dartwebs_k29_beats_refused).prog w K mg base "lots_by_beats" 6 ["web", "many"] F_lots_by_beats := ok_lots_by_beats T C_parted C_names_of C_sides_of C_behind_lot C_behind_turn E_lots_by_beats g_lots_by_beats
  have C_beats : CalP (PySem.Challenge.rw_dartwebs_k29_beats_refused).prog w K mg base "beats" 7 ["web", "many"] F_beats := ok_beats T C_need_web C_need_good_tree C_is_from C_lots_by_beats E_beats g_beats
  have C_kind_of_tree : CalP (PySem.Challenge.rw_dartwebs_k29_beats_refused).prog w K mg base "kind_of_tree" 2 ["web"] F_kind_of_tree := ok_kind_of_tree T C_neighbours E_kind_of_tree g_kind_of_tree
  have C_beat : CalP (PySem.Challenge.rw_dartwebs_k29_beats_refused).prog w K mg base "beat" 6 ["web"] F_beat := ok_beat T C_need_web C_need_good_tree C_kind_of_tree E_beat g_beat
  have C_with_names : CalP (PySem.Challenge.rw_dartwebs_k29_beats_refused).prog w K mg base "with_names" 2 ["web", "order"] F_with_names := ok_with_names T C_frozen E_with_names g_with_names
  have C_is_steady_web : CalP (PySem.Challenge.rw_dartwebs_k29_beats_refused).prog w K mg base "is_steady_web" 3 ["web"] F_is_steady_web := ok_is_steady_web T C_with_names C_behind_turn E_is_steady_web g_is_steady_web
  have C_is_steady : CalP (PySem.Challenge.rw_dartwebs_k29_beats_refused).prog w K mg base "is_steady" 6 ["web"] F_is_steady := ok_is_steady T C_need_web C_is_steady_web E_is_steady g_is_steady
  have C_common : CalP (PySem.Challenge.rw_dartwebs_k29_beats_refused).prog w K mg base "common" 1 ["one", "other"] F_common := ok_common T  E_common g_common
  have C_is_start : CalP (PySem.Challenge.rw_dartwebs_k29_beats_refused).prog w K mg base "is_start" 3 ["value"] F_is_start := ok_is_start T C_is_from C_common C_is_integer E_is_start g_is_start
  have C_need_shares : CalP (PySem.Challenge.rw_dartwebs_k29_beats_refused).prog w K mg base "need_shares" 4 ["n", "value"] F_need_shares := ok_need_shares T C_is_start E_need_shares g_need_shares
  have C_share : CalP (PySem.Challenge.rw_dartwebs_k29_beats_refused).prog w K mg base "share" 2 ["top", "bottom"] F_share := ok_share T C_common E_share g_share
  have C_times_shares : CalP (PySem.Challenge.rw_dartwebs_k29_beats_refused).prog w K mg base "times_shares" 3 ["one", "other"] F_times_shares := ok_times_shares T C_share E_times_shares g_times_shares
  have C_need_short : CalP (PySem.Challenge.rw_dartwebs_k29_beats_refused).prog w K mg base "need_short" 1 ["one"] F_need_short := ok_need_short T  E_need_short g_need_short
  have C_product_of_shares : CalP (PySem.Challenge.rw_dartwebs_k29_beats_refused).prog w K mg base "product_of_shares" 4 ["shares", "powers"] F_product_of_shares := ok_product_of_shares T C_times_shares C_need_short E_product_of_shares g_product_of_shares
  have C_need_small : CalP (PySem.Challenge.rw_dartwebs_k29_beats_refused).prog w K mg base "need_small" 1 ["table"] F_need_small := ok_need_small T  E_need_small g_need_small
  have C_turn_of : CalP (PySem.Challenge.rw_dartwebs_k29_beats_refused).prog w K mg base "turn_of" 3 ["web", "x"] F_turn_of := ok_turn_of T C_behind_turn C_need_small E_turn_of g_turn_of
  have C_plus_shares : CalP (PySem.Challenge.rw_dartwebs_k29_beats_refused).prog w K mg base "plus_shares" 3 ["one", "other"] F_plus_shares := ok_plus_shares T C_share E_plus_shares g_plus_shares
  have C_turned_share : CalP (PySem.Challenge.rw_dartwebs_k29_beats_refused).prog w K mg base "turned_share" 1 ["one"] F_turned_share := ok_turned_share T  E_turned_share g_turned_share
  have C_values_behind : CalP (PySem.Challenge.rw_dartwebs_k29_beats_refused).prog w K mg base "values_behind" 5 ["web", "row", "shares"] F_values_behind := ok_values_behind T C_product_of_shares C_times_shares C_need_short C_turn_of C_plus_shares C_turned_share E_values_behind g_values_behind
  have C_steady_row : CalP (PySem.Challenge.rw_dartwebs_k29_beats_refused).prog w K mg base "steady_row" 6 ["web", "shares", "many"] F_steady_row := ok_steady_row T C_need_web C_need_shares C_is_steady_web C_is_from C_values_behind E_steady_row g_steady_row
  exact fn_okL (st := s_law) (Pr := (PySem.Challenge.rw_dartwebs_k29_beats_refused).prog) E_law rfl sc_law hP (hTB _ List.mem_cons_self) rfl fun cdv A outer s H E hr TC => b_law T C__law_pick C_sides C_beats C_beat C_is_steady C__law_taken C_steady_row G__law_error cl__law_error hr TC
abbrev Rw : PySem.W.OpenRow := PySem.W.OpenLaw.row PySem.Challenge.rw_dartwebs_k29_beats_refused
abbrev hk : PySem.W.Hook := hookV 5 fa fn ts tf
def ob (s : PySem.W.SharedT) : AlV := obsVG 5 fa fn ts tf (HandSHeadRun.getT s)
theorem ob_eq (s : PySem.W.SharedT) : ob s = hk.obs s.abs := obsVG_eq (HandSHeadRun.getT_eq s)
def loose : List PySem.Str := "__name__" :: "WebError" :: "BadWeb" :: "TooGreat" :: "TooLong" :: "NotEven" :: "BadShares" :: "NoTree" :: "NotSteady" :: "BadTimes" :: "MOST_NODES" :: "MOST_ARROWS" :: "is_integer" :: "is_from" :: "is_line" :: "is_web" :: "need_web" :: "arrows_of" :: "frozen" :: "added_by" :: "behind_turn" :: "need_small" :: "turn_of" :: "with_names" :: "neighbours" :: "parts_of" :: "is_simple" :: "is_a_tree" :: "kind_of_tree" :: "MOST_PAIRS" :: "MOST_EXPONENT" :: "sum_of" :: "added" :: "product_of" :: "multiplied" :: "lowest" :: "greatest" :: "moved" :: "divided" :: "power_of" :: "name_of" :: "MOST_TOLD" :: "MOST_VALUE" :: "WHOLE" :: "common" :: "share" :: "plus_shares" :: "times_shares" :: "turned_share" :: "is_start" :: "need_shares" :: "need_short" :: "names_of" :: "new_number" :: "behind_lot" :: "product_of_shares" :: "values_behind" :: "is_good_tree" :: "MOST_BEATS" :: "BEAT_E" :: "MOST_STEPS" :: "sides_of" :: "need_good_tree" :: "sides" :: "parted" :: "lots_by_beats" :: "beats" :: "beat" :: "is_steady_web" :: "is_steady" :: "steady_row" :: "_law_taken" :: "_law_pick" :: "_law_error" :: []
theorem run (w : World) : HandSHeadRun.RunEq Rw (PySem.W.view Rw.prog [82]) hk ob 4000 loose w := by
  intro os
  kernel_rfl
end K29
open PySem PySem.W PySem.Calls PyProof.Rows in
set_option maxHeartbeats 0 in
theorem PySem.Challenge.cw_dartwebs_k29_beats_refused_holds : PySem.Challenge.rw_dartwebs_k29_beats_refused.Holds := by
  w_on; o_law
  refine HandSHeadRun.head_any (r := OpenLaw.row PySem.Challenge.rw_dartwebs_k29_beats_refused) (q := view (OpenLaw.row PySem.Challenge.rw_dartwebs_k29_beats_refused).prog [82]) (H := K29.hk) (ob := K29.ob) (M := 4000) (loose := K29.loose) (d := HandSHeadRun.topDef (OpenLaw.row PySem.Challenge.rw_dartwebs_k29_beats_refused).prog 82) (kwd := []) K29.ob_eq
    (by kernel_rfl) (fun s => by kernel_rfl) K29.run (by kernel_rfl) (by kernel_rfl) (by kernel_rfl) (by rfl) (by first | assumption | decide +kernel) (by decide +kernel) ⟨rfl, rfl, rfl, rfl, rfl, by decide +kernel⟩ ?hw ?hc
  case hw => w_witness2
  case hc =>
    refine LamX.walk_ofTsE (l := PySem.Challenge.rw_dartwebs_k29_beats_refused) (n := 63) (k := 10) (x := "_law_script") (CX := fun w => L2N.CX (PySem.Challenge.rw_dartwebs_k29_beats_refused).prog w) rfl (by decide) (by kernel_rfl) ⟨rfl, by decide, by decide⟩ ?F (fun w H s e s' => DV.cx_law)
    intro w mg fa h Y G hmg0
    obtain ⟨K, KX, c⟩ := Y
    have hmg : mg ("law" : PySem.Str) = some (.ref fa) := by
      have e : (HandSHeadRun.topDef (OpenLaw.row PySem.Challenge.rw_dartwebs_k29_beats_refused).prog 82).name = ("law" : PySem.Str) := by kernel_rfl
      rw [← e]
      exact hmg0
    exact ⟨K, KX, K29.facts K29.law_true KX G hmg c⟩
#print axioms PySem.Challenge.cw_dartwebs_k29_beats_refused_holds
