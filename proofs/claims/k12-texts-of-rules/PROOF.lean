import PyProof.Rows.All
import Wide.All
import OpenK.AllK
import Wide.FinOn
import HandS.ForMost
import HandS.ForExc
import HandS.Lambda
import HandS.Strs
import HandS.SetFor
import KE.KeyNested
import KE.KDictKeyed
import HandS.Wide
import HandS.TupAny
import HandS.TupMul
import HandS.Style
import HandS.Deep
import HandS.IsInst
import KE.LtData
import HandS.Conv
import HandS.TryMany
import HandS.EndTab
import HandS.HeadWalk
import HandS.Defaults
import HandS.HeadHook1
import HandS.HeadHook2
import HandS.HeadHook3
import HandS.HeadHook4
import HandS.Head0
import HandS.Head1
import HandS.Head2
import HandS.Dict
import HandS.Iter
import HandS.TupSets
import KE.SortData
import HandS.WordsDict
import HandS.Zip
import KE.KDictSum
import HandS.Flt
import PyProof.DictRoadsH
import KE.KDictDisplayH
import PyProof.DictTable
import HandS.StrMore
import HandS.Steps
import KE.GoesMore
import KE.GoesEnum
import PyProof.EnumMake
import PyProof.EnumFor
import PySem.Challenge.RW_benchstops_k12_texts_of_rules
set_option Elab.async false
set_option linter.all false
set_option maxRecDepth 100000
set_option autoImplicit false
set_option maxHeartbeats 8000000
/-! L3a: a small functional language over the hand layer: values, heap, how they lie in the abstract heap, the transformers. -/
namespace L3
open PySem PySem.Spec PyProof.Rows L2

/-- a value: immutable data, or the i-th mutable object -/
inductive D where
  | non | bl (b : Bool) | int (i : Int) | str (s : Str) | tup (ds : List D) | rol (ds : List D) | scr (ds : List D) | ref (i : Nat)
/-- a mutable object -/
inductive GO where
  | lst (ds : List D)
  | iset (ks : List Int)
  | dct (kvs : List (D × D))
  | dcf (kvs : List (D × D))
  | dkn (n : Nat)
/-- the written part and the world -/
structure KW where
  K : PySem.W.Frag
  P : Program
  w : World
abbrev _root_.L2.Cx.kw (X : L2.Cx) : KW := ⟨X.K, X.prog, X.w⟩
abbrev GH := List GO
inductive Exc where
  | own (c : Nat) | lim (c : Nat) (d : D)
inductive Res (α : Type) where
  | ok (a : α) (g : GH) | er (e : Exc) (g : GH) | bad
def Res.bind {α β : Type} (r : Res α) (f : α → GH → Res β) : Res β := match r with
  | .ok a g => f a g
  | .er e g => .er e g
  | .bad => .bad
@[simp] theorem Res.bind_ok {α β : Type} (a : α) (g : GH) (f : α → GH → Res β) : (Res.ok a g).bind f = f a g := rfl
@[simp] theorem Res.bind_er {α β : Type} (e : Exc) (g : GH) (f : α → GH → Res β) : (Res.er e g : Res α).bind f = .er e g := rfl
@[simp] theorem Res.bind_bad {α β : Type} (f : α → GH → Res β) : (Res.bad : Res α).bind f = .bad := rfl

/-! ### how values lie -/
/-- a list that nobody writes -/
def RoL (H : Hp) (a : Addr) (xs : List V) : Prop := ∃ o, H a = some (.frz o (.lst xs))
theorem RoL.sql {K : PySem.W.Frag} {H : Hp} {a : Addr} {xs : List V} (h : RoL H a xs) : SqL K H a xs := by
  obtain ⟨o, h⟩ := h
  exact .inl (.inr ⟨o, h⟩)
theorem RoL.rd {H : Hp} {a : Addr} {xs : List V} (h : RoL H a xs) : Rd H a (.lst xs) := .inr h
/-- the script -/
def ScL (K : PySem.W.Frag) (H : Hp) (a : Addr) (xs : List V) : Prop :=
  (∃ o, H a = some (.frz o (.lst xs))) ∨
    ∃ (o : Obj) (its : Array Value) (n : Nat), K.lookup a = some o ∧ o.cls = .type "list" ∧ o.dict = none ∧ o.data = .seq its n ∧ its.size ≤ sizeLine ∧ Vals xs its.toList
theorem ScL.sql {K : PySem.W.Frag} {H : Hp} {a : Addr} {xs : List V} (h : ScL K H a xs) : SqL K H a xs := by
  rcases h with ⟨o, h⟩ | h
  · exact .inl (.inr ⟨o, h⟩)
  · exact .inr h

mutual
def DRep (K : KW) (m : List Addr) (H : Hp) : D → V → Prop
  | .non, v => v = .non
  | .bl b, v => v = .bl b
  | .int i, v => v = .int i
  | .str s, v => v = .str s
  | .tup ds, v => ∃ a xs, v = .ref a ∧ SqT K.K H a xs ∧ DReps K m H ds xs
  | .rol ds, v => ∃ a xs, v = .ref a ∧ RoL H a xs ∧ DReps K m H ds xs
  | .scr ds, v => ∃ a xs, v = .ref a ∧ ScL K.K H a xs ∧ DReps K m H ds xs
  | .ref i, v => ∃ a, v = .ref a ∧ m[i]? = some a
def DReps (K : KW) (m : List Addr) (H : Hp) : List D → List V → Prop
  | [], xs => xs = []
  | d :: ds, xs => ∃ v vs, xs = v :: vs ∧ DRep K m H d v ∧ DReps K m H ds vs
end

/-- free, or a table of code objects -/
def Fr0 (H : Hp) (a : Addr) : Prop := ∀ o, H a = some o → ∃ ps, o = HO.tbl ps
theorem fr0_none {H : Hp} {a : Addr} (h : H a = none) : Fr0 H a := fun o e => by rw [h] at e; cases e
structure Ext (m : List Addr) (H : Hp) (m' : List Addr) (H' : Hp) : Prop where
  pre : ∃ t, m' = m ++ t ∧ ∀ a ∈ t, Fr0 H a
  tups : ∀ b xs, H b = some (.tup xs) → H' b = some (.tup xs)
  frzs : ∀ b o u, H b = some (.frz o u) → H' b = some (.frz o u)
  keep : ∀ b o, H b = some o → b ∉ m → (∀ ps, o ≠ .tbl ps) → H' b = some o
  dom : ∀ b, Fr0 H' b → Fr0 H b

section
variable {K : KW} {m m' m'' : List Addr} {H H' H'' : Hp} {g g' : GH}
theorem Ext.refl : Ext m H m H := ⟨⟨[], by simp, fun _ h => by cases h⟩, fun _ _ h => h, fun _ _ _ h => h, fun _ _ h _ _ => h, fun _ h => h⟩
theorem Ext.mem (e : Ext m H m' H') {b : Addr} {o : HO} (hb : H b = some o) (n : b ∉ m) (nt : ∀ ps, o ≠ .tbl ps) : b ∉ m' := by
  obtain ⟨t, rfl, ht⟩ := e.pre
  intro z
  rcases List.mem_append.mp z with z | z
  · exact n z
  · obtain ⟨ps, e⟩ := ht b z o hb
    exact nt ps e
theorem Ext.get (e : Ext m H m' H') {i : Nat} {a : Addr} (h : m[i]? = some a) : m'[i]? = some a := by
  obtain ⟨t, rfl, _⟩ := e.pre
  rw [List.getElem?_append_left (List.getElem?_eq_some_iff.mp h).1]; exact h
theorem Ext.rd (e : Ext m H m' H') {a : Addr} {xs : List V} (h : SqT K.K H a xs) : SqT K.K H' a xs := by
  rcases h with (h | ⟨o, h⟩) | h
  · exact .inl (.inl (e.tups _ _ h))
  · exact .inl (.inr ⟨o, e.frzs _ _ _ h⟩)
  · exact .inr h
theorem Ext.ro (e : Ext m H m' H') {a : Addr} {xs : List V} (h : RoL H a xs) : RoL H' a xs := by
  obtain ⟨o, h⟩ := h
  exact ⟨o, e.frzs _ _ _ h⟩
theorem sqT_keep (ht : ∀ b xs, H b = some (.tup xs) → H' b = some (.tup xs)) (hf : ∀ b o u, H b = some (.frz o u) → H' b = some (.frz o u)) {a : Addr} {xs : List V} (h : SqT K.K H a xs) : SqT K.K H' a xs := by
  rcases h with (h | ⟨o, h⟩) | h
  · exact .inl (.inl (ht _ _ h))
  · exact .inl (.inr ⟨o, hf _ _ _ h⟩)
  · exact .inr h
theorem roL_keep (hf : ∀ b o u, H b = some (.frz o u) → H' b = some (.frz o u)) {a : Addr} {xs : List V} (h : RoL H a xs) : RoL H' a xs := by
  obtain ⟨o, h⟩ := h
  exact ⟨o, hf _ _ _ h⟩
theorem scL_keep (hf : ∀ b o u, H b = some (.frz o u) → H' b = some (.frz o u)) {a : Addr} {xs : List V} (h : ScL K.K H a xs) : ScL K.K H' a xs := by
  rcases h with ⟨o, h⟩ | h
  · exact .inl ⟨o, hf _ _ _ h⟩
  · exact .inr h
mutual
theorem DRep.mono0 (hm : ∀ (i : Nat) a, m[i]? = some a → m'[i]? = some a) (ht : ∀ b xs, H b = some (.tup xs) → H' b = some (.tup xs)) (hf : ∀ b o u, H b = some (.frz o u) → H' b = some (.frz o u)) : ∀ (d : D) (v : V), DRep K m H d v → DRep K m' H' d v
  | .non, _, h => by simpa [DRep] using h
  | .bl _, _, h => by simpa [DRep] using h
  | .int _, _, h => by simpa [DRep] using h
  | .str _, _, h => by simpa [DRep] using h
  | .tup ds, v, h => by
    rw [DRep] at h ⊢
    obtain ⟨a, xs, h1, h2, h3⟩ := h
    exact ⟨a, xs, h1, sqT_keep ht hf h2, DReps.mono0 hm ht hf ds xs h3⟩
  | .rol ds, v, h => by
    rw [DRep] at h ⊢
    obtain ⟨a, xs, h1, h2, h3⟩ := h
    exact ⟨a, xs, h1, roL_keep hf h2, DReps.mono0 hm ht hf ds xs h3⟩
  | .scr ds, v, h => by
    rw [DRep] at h ⊢
    obtain ⟨a, xs, h1, h2, h3⟩ := h
    exact ⟨a, xs, h1, scL_keep hf h2, DReps.mono0 hm ht hf ds xs h3⟩
  | .ref i, v, h => by
    rw [DRep] at h ⊢
    obtain ⟨a, h1, h2⟩ := h
    exact ⟨a, h1, hm _ _ h2⟩
theorem DReps.mono0 (hm : ∀ (i : Nat) a, m[i]? = some a → m'[i]? = some a) (ht : ∀ b xs, H b = some (.tup xs) → H' b = some (.tup xs)) (hf : ∀ b o u, H b = some (.frz o u) → H' b = some (.frz o u)) : ∀ (ds : List D) (vs : List V), DReps K m H ds vs → DReps K m' H' ds vs
  | [], _, h => by simpa [DReps] using h
  | d :: ds, vs, h => by
    rw [DReps] at h ⊢
    obtain ⟨v, r, h1, h2, h3⟩ := h
    exact ⟨v, r, h1, DRep.mono0 hm ht hf d v h2, DReps.mono0 hm ht hf ds r h3⟩
end
theorem DRep.mono (e : Ext m H m' H') (d : D) (v : V) (h : DRep K m H d v) : DRep K m' H' d v := DRep.mono0 (fun _ _ => e.get) e.tups e.frzs d v h
theorem DReps.mono (e : Ext m H m' H') (ds : List D) (vs : List V) (h : DReps K m H ds vs) : DReps K m' H' ds vs := DReps.mono0 (fun _ _ => e.get) e.tups e.frzs ds vs h
theorem Ext.trans (a : Ext m H m' H') (b : Ext m' H' m'' H'') : Ext m H m'' H'' := by
  refine ⟨?_, fun c xs h => b.tups c xs (a.tups c xs h), fun c o u h => b.frzs c o u (a.frzs c o u h), fun c o h n nt => b.keep c o (a.keep c o h n nt) (a.mem h n nt) nt, fun c h => a.dom c (b.dom c h)⟩
  obtain ⟨t, e1, h1⟩ := a.pre
  obtain ⟨t', e2, h2⟩ := b.pre
  refine ⟨t ++ t', by rw [e2, e1, List.append_assoc], fun x hx => ?_⟩
  rcases List.mem_append.mp hx with hx | hx
  · exact h1 x hx
  · exact a.dom x (h2 x hx)
end

/-! ### dicts whose keys are nested tuples -/
mutual
def nk : D → Option NestedKey
  | .non => some .none
  | .bl b => some (.num (if b then 1 else 0))
  | .int i => some (.num i)
  | .str s => some (.text s)
  | .tup ds => (nks ds).map .tup
  | .rol _ => none
  | .scr _ => none
  | .ref _ => none
def nks : List D → Option (List NestedKey)
  | [] => some []
  | d :: ds => (nk d).bind fun k => (nks ds).map fun ks => k :: ks
end
/-- the dict's own object -/
def DicO (P : Program) (w : World) (a : Addr) (xs : List (NestedKey × Addr × Value)) : HO :=
  .ext fun h => ∃ o es ep, h.get? a = some o ∧ o.ExactDict ∧ o.data = .dict es ep ∧ es.toList = xs.map (entryOfKey (nestedKind P w)) ∧ (xs.map (·.1)).Nodup
def PairD (K : KW) (m : List Addr) (H : Hp) : List (D × D) → List (NestedKey × Addr × Value) → Prop
  | [], xs => xs = []
  | (k, d) :: kvs, xs => ∃ key b v vv r, xs = (key, b, v) :: r ∧ nk k = some key ∧ key.depth ≤ 8 ∧ DRep K m H k (.ref b) ∧ RelV vv v ∧ DRep K m H d vv ∧ PairD K m H kvs r
theorem dicO_code (P : Program) (w : World) (a : Addr) {xs : List (NestedKey × Addr × Value)} (hn : (xs.map (·.1)).Nodup) (c : Addr) (q : Str) : DicO P w a xs ≠ LamX.CodeO c q := by
  intro e
  unfold DicO LamX.CodeO at e
  injection e with e
  let o : Obj := { cls := .type "dict", data := .dict (xs.map (entryOfKey (nestedKind P w))).toArray 0 }
  let h : Heap := { objs := Array.replicate (a + 1) o }
  have g : ∀ b, b < a + 1 → h.get? b = some o := fun b hb => by
    unfold Heap.get?
    have : h.objs[b]? = some o := by
      show (Array.replicate (a + 1) o)[b]? = some o
      rw [Array.getElem?_replicate, if_pos hb]
    rw [this]
  have h1 : ∃ o es ep, h.get? a = some o ∧ o.ExactDict ∧ o.data = .dict es ep ∧ es.toList = xs.map (entryOfKey (nestedKind P w)) ∧ (xs.map (·.1)).Nodup := ⟨o, _, 0, g a (Nat.lt_succ_self a), ⟨rfl, rfl, rfl⟩, rfl, by simp, hn⟩
  have h2 := (congrFun e h).mp h1
  obtain ⟨oc, vs, t, h3, h4, _⟩ := h2
  by_cases hc : c < a + 1
  · rw [g c hc] at h3
    cases h3
    cases h4
  · have : h.get? c = none := by
      unfold Heap.get?
      have : h.objs[c]? = none := by
        show (Array.replicate (a + 1) o)[c]? = none
        rw [Array.getElem?_replicate, if_neg hc]
      rw [this]
    rw [this] at h3
    cases h3
/-- a mutable object at its address -/
def ORep (K : KW) (m : List Addr) (H : Hp) : GO → Addr → Prop
  | .lst ds, a => ∃ xs, H a = some (.lst xs) ∧ DReps K m H ds xs
  | .iset ks, a => H a = some (SetO K.w a (fun j => decide (j ∈ ks)) ks.length) ∧ ks.Pairwise (· < ·)
  | .dcf kvs, a => ∃ xs o, H a = some (.frz o (DicO K.P K.w a xs)) ∧ PairD K m H kvs xs ∧ (xs.map (·.1)).Nodup ∧ (a == sysModules) = false ∧ kvs.length ≤ 16777216
  | .dkn n, a => ∃ kvs : List (Key × V), H a = some (.dK kvs) ∧ kvs.length = n
  | .dct kvs, a => ∃ xs, H a = some (DicO K.P K.w a xs) ∧ PairD K m H kvs xs ∧ (xs.map (·.1)).Nodup ∧ (a == sysModules) = false ∧ kvs.length ≤ 16777216
theorem PairD.mono0 {K : KW} {m m' : List Addr} {H H' : Hp} (f : ∀ d v, DRep K m H d v → DRep K m' H' d v) : ∀ (kvs : List (D × D)) (xs : List (NestedKey × Addr × Value)), PairD K m H kvs xs → PairD K m' H' kvs xs
  | [], _, h => h
  | (k, d) :: kvs, xs, ⟨key, b, v, vv, r, e, h1, h2, h3, h4, h5, h6⟩ => ⟨key, b, v, vv, r, e, h1, h2, f _ _ h3, h4, f _ _ h5, PairD.mono0 f kvs r h6⟩

structure S (K : KW) (T : List (Addr × Str)) (m : List Addr) (g : GH) (H : Hp) : Prop where
  nod : m.Nodup
  len : m.length = g.length
  obj : ∀ (i : Nat) a o, m[i]? = some a → g[i]? = some o → ORep K m H o a
  tab : LamX.Tabs T H
section
variable {K : KW} {T : List (Addr × Str)} {m m' m'' : List Addr} {H H' H'' : Hp} {g g' : GH}
theorem ORep.mono (e : Ext m H m' H') {o : GO} {a : Addr} (h : ORep K m H o a) (k : ∀ u, H a = some u → H' a = some u) : ORep K m' H' o a := by
  cases o with
  | lst ds =>
    obtain ⟨xs, h1, h2⟩ := h
    exact ⟨xs, k _ h1, DReps.mono e ds xs h2⟩
  | iset ks => exact ⟨k _ h.1, h.2⟩
  | dkn n => obtain ⟨kvs, h1, h2⟩ := h; exact ⟨kvs, k _ h1, h2⟩
  | dct kvs =>
    obtain ⟨xs, h1, h2, h3⟩ := h
    exact ⟨xs, k _ h1, PairD.mono0 (DRep.mono e) kvs xs h2, h3⟩
  | dcf kvs =>
    obtain ⟨xs, o, h1, h2, h3⟩ := h
    exact ⟨xs, o, k _ h1, PairD.mono0 (DRep.mono e) kvs xs h2, h3⟩
theorem ORep.mono0 (hm : ∀ (i : Nat) a, m[i]? = some a → m'[i]? = some a) (ht : ∀ b xs, H b = some (.tup xs) → H' b = some (.tup xs)) (hf : ∀ b o u, H b = some (.frz o u) → H' b = some (.frz o u)) {o : GO} {a : Addr} (h : ORep K m H o a)
    (k : ∀ u, H a = some u → H' a = some u) : ORep K m' H' o a := by
  cases o with
  | lst ds =>
    obtain ⟨xs, h1, h2⟩ := h
    exact ⟨xs, k _ h1, DReps.mono0 hm ht hf ds xs h2⟩
  | iset ks => exact ⟨k _ h.1, h.2⟩
  | dkn n => obtain ⟨kvs, h1, h2⟩ := h; exact ⟨kvs, k _ h1, h2⟩
  | dct kvs =>
    obtain ⟨xs, h1, h2, h3⟩ := h
    exact ⟨xs, k _ h1, PairD.mono0 (DRep.mono0 hm ht hf) kvs xs h2, h3⟩
  | dcf kvs =>
    obtain ⟨xs, o, h1, h2, h3⟩ := h
    exact ⟨xs, o, k _ h1, PairD.mono0 (DRep.mono0 hm ht hf) kvs xs h2, h3⟩
/-- what stands at a tracked address of ours -/
def Mine (o : HO) : Prop := match o with
  | .lst _ => True
  | .dK _ => True
  | .dT _ => True
  | .ins _ _ _ => True
  | .ext φ => ∀ c q, HO.ext φ ≠ LamX.CodeO c q
  | _ => False
theorem ORep.some {o : GO} {a : Addr} (h : ORep K m H o a) : ∃ u, H a = some u := by
  cases o with
  | lst ds => obtain ⟨xs, h1, h2⟩ := h; exact ⟨_, h1⟩
  | iset _ => exact ⟨_, h.1⟩
  | dkn n => obtain ⟨kvs, h1, h2⟩ := h; exact ⟨_, h1⟩
  | dct kvs => obtain ⟨xs, h1, h2⟩ := h; exact ⟨_, h1⟩
  | dcf kvs => obtain ⟨xs, o, h1, h2⟩ := h; exact ⟨_, h1⟩
theorem S.at (s : S K T m g H) {i : Nat} {a : Addr} (h : m[i]? = some a) : ∃ o, g[i]? = some o ∧ ORep K m H o a := by
  have hi : i < g.length := by rw [← s.len]; exact (List.getElem?_eq_some_iff.mp h).1
  exact ⟨g[i], List.getElem?_eq_getElem hi, s.obj i a _ h (List.getElem?_eq_getElem hi)⟩
theorem S.addr (s : S K T m g H) {i : Nat} {o : GO} (h : g[i]? = some o) : ∃ a, m[i]? = some a ∧ ORep K m H o a := by
  have hi : i < m.length := by rw [s.len]; exact (List.getElem?_eq_some_iff.mp h).1
  exact ⟨m[i], List.getElem?_eq_getElem hi, s.obj i _ o (List.getElem?_eq_getElem hi) h⟩
theorem S.someOf (s : S K T m g H) {a : Addr} (h : a ∈ m) : ∃ u, H a = some u := by
  obtain ⟨i, hi⟩ := List.getElem?_of_mem h
  obtain ⟨o, _, r⟩ := s.at hi
  exact r.some
theorem S.none_mem (s : S K T m g H) {a : Addr} (h : H a = none) : a ∉ m := fun z => by
  obtain ⟨u, hu⟩ := s.someOf z
  rw [h] at hu; cases hu
theorem tabs_keep (t : LamX.Tabs T H) (k : ∀ b o, H b = some o → ¬ Mine o → H' b = some o) : LamX.Tabs T H' := fun p hp => by
  obtain ⟨ps, h1, h2, h3⟩ := t p hp
  refine ⟨ps, k _ _ h1 (fun z => z), h2, fun pos cv hc => ?_⟩
  obtain ⟨c, e1, e2⟩ := h3 pos cv hc
  exact ⟨c, e1, k _ _ e2 fun z => (show ∀ c' q', LamX.CodeO c p.2 ≠ LamX.CodeO c' q' from z) c p.2 rfl⟩
/-- a new thing that is not ours (a tuple, say) -/
theorem S.laid (s : S K T m g H) {p : Addr} {u : HO} (hp : H p = none) : Ext m H m (upd H p u) ∧ S K T m g (upd H p u) := by
  have k : ∀ b o, H b = some o → upd H p u b = some o := fun b o h => by rw [upd_ne (ne_of_none h hp)]; exact h
  have e : Ext m H m (upd H p u) := ⟨⟨[], by simp, fun _ h => by cases h⟩, fun b xs h => k _ _ h, fun b o u h => k _ _ h, fun b o h _ _ => k _ _ h, fun b h o q => h o (k b o q)⟩
  refine ⟨e, s.nod, s.len, fun i a o h1 h2 => (s.obj i a o h1 h2).mono e fun u h => k _ _ h, tabs_keep s.tab fun b o h _ => k _ _ h⟩
/-- a new mutable object -/
theorem S.new (s : S K T m g H) {p : Addr} {u : HO} {o : GO} (hp : H p = none) (r : ORep K (m ++ [p]) (upd H p u) o p) : Ext m H (m ++ [p]) (upd H p u) ∧ S K T (m ++ [p]) (g ++ [o]) (upd H p u) := by
  have k : ∀ b o, H b = some o → upd H p u b = some o := fun b o h => by rw [upd_ne (ne_of_none h hp)]; exact h
  have e : Ext m H (m ++ [p]) (upd H p u) := ⟨⟨[p], rfl, fun b h => by simp at h; rw [h]; exact fr0_none hp⟩, fun b xs h => k _ _ h, fun b o u h => k _ _ h, fun b o h _ _ => k _ _ h, fun b h o q => h o (k b o q)⟩
  refine ⟨e, ?_, by simp [s.len], fun i a q h1 h2 => ?_, tabs_keep s.tab fun b o h _ => k _ _ h⟩
  · rw [List.nodup_append]
    refine ⟨s.nod, by simp, fun a ha b hb => ?_⟩
    simp at hb
    subst hb
    rintro rfl
    exact s.none_mem hp ha
  · by_cases hi : i < m.length
    · rw [List.getElem?_append_left hi] at h1
      rw [List.getElem?_append_left (by rw [← s.len]; exact hi)] at h2
      exact (s.obj i a q h1 h2).mono e fun u h => k _ _ h
    · have hi2 : i = m.length := by
        have := (List.getElem?_eq_some_iff.mp h1).1
        simp at this
        omega
      subst hi2
      have e1 : p = a := by simpa using h1
      have e2 : o = q := by rw [s.len] at h2; simpa using h2
      rw [← e1, ← e2]
      exact r
theorem S.putE (s : S K T m g H) {i : Nat} {a : Addr} {u w : HO} (hi : m[i]? = some a) (hw : H a = some w) (mw : Mine w) (hu : ∀ ps, u ≠ .tbl ps := by intro _ z; cases z) : Ext m H m (upd H a u) := by
  have k : ∀ b o, H b = some o → ¬ Mine o → upd H a u b = some o := fun b o h n => by
    rw [upd_ne]
    · exact h
    · rintro rfl
      rw [hw] at h; cases h; exact n mw
  exact ⟨⟨[], by simp, fun _ h => by cases h⟩, fun b xs h => k _ _ h (fun z => z), fun b o u h => k _ _ h (fun z => z), fun b o h n _ => by
    rw [upd_ne]
    · exact h
    · rintro rfl
      exact n (List.mem_of_getElem? hi), fun b h o q => by
    by_cases hb : b = a
    · subst hb
      obtain ⟨ps, z⟩ := h u upd_same
      exact absurd z (hu ps)
    · exact h o (by rw [upd_ne hb]; exact q)⟩
/-- a mutable object is changed -/
theorem S.put (s : S K T m g H) {i : Nat} {a : Addr} {u w : HO} {o : GO} (hi : m[i]? = some a) (hw : H a = some w) (mw : Mine w) (r : ORep K m (upd H a u) o a) (hu : ∀ ps, u ≠ .tbl ps := by intro _ z; cases z) : Ext m H m (upd H a u) ∧ S K T m (g.set i o) (upd H a u) := by
  have k : ∀ b o, H b = some o → ¬ Mine o → upd H a u b = some o := fun b o h n => by
    rw [upd_ne]
    · exact h
    · rintro rfl
      rw [hw] at h; cases h; exact n mw
  have e : Ext m H m (upd H a u) := ⟨⟨[], by simp, fun _ h => by cases h⟩, fun b xs h => k _ _ h (fun z => z), fun b o u h => k _ _ h (fun z => z), fun b o h n _ => by
    rw [upd_ne]
    · exact h
    · rintro rfl
      exact n (List.mem_of_getElem? hi), fun b h o q => by
    by_cases hb : b = a
    · subst hb
      obtain ⟨ps, z⟩ := h u upd_same
      exact absurd z (hu ps)
    · exact h o (by rw [upd_ne hb]; exact q)⟩
  have hig : i < g.length := by rw [← s.len]; exact (List.getElem?_eq_some_iff.mp hi).1
  refine ⟨e, s.nod, by simp [s.len], fun j b q h1 h2 => ?_, tabs_keep s.tab k⟩
  by_cases hj : j = i
  · subst hj
    rw [hi] at h1; cases h1
    rw [List.getElem?_set_self hig] at h2
    cases h2
    exact r
  · rw [List.getElem?_set_ne (Ne.symm hj)] at h2
    have hba : b ≠ a := by
      rintro rfl
      have h3 := (List.getElem?_eq_some_iff.mp h1)
      have h4 := (List.getElem?_eq_some_iff.mp hi)
      obtain ⟨l1, e1⟩ := h3
      obtain ⟨l2, e2⟩ := h4
      exact hj ((List.getElem_inj s.nod).mp (e1.trans e2.symm))
    exact (s.obj j b q h1 h2).mono e fun u h => by rw [upd_ne hba]; exact h
end

/-! ### slots -/
abbrev Rho := List (Option D)
def RhoRep (K : KW) (m : List Addr) (H : Hp) (ρ : Rho) (σ : L2.St) : Prop := ∀ (i : Nat) d, ρ[i]? = some (some d) → ∃ v, σ[i]? = some (some v) ∧ DRep K m H d v
section
variable {K : KW} {T : List (Addr × Str)} {m m' m'' : List Addr} {H H' H'' : Hp} {g g' : GH} {ρ : Rho} {σ : L2.St}
theorem RhoRep.mono (r : RhoRep K m H ρ σ) (e : Ext m H m' H') : RhoRep K m' H' ρ σ := fun i d h => by
  obtain ⟨v, h1, h2⟩ := r i d h
  exact ⟨v, h1, h2.mono e⟩
theorem RhoRep.set (r : RhoRep K m H ρ σ) {i : Nat} {d : D} {v : V} (hi : i < σ.length) (h : DRep K m H d v) : RhoRep K m H (ρ.set i (some d)) (σ.set i (some v)) := fun j e q => by
  by_cases hj : i = j
  · subst hj
    by_cases hl : i < ρ.length
    · rw [List.getElem?_set_self hl] at q
      cases q
      exact ⟨v, List.getElem?_set_self hi, h⟩
    · rw [List.getElem?_eq_none (by simpa using Nat.le_of_not_lt hl)] at q; cases q
  · rw [List.getElem?_set_ne hj] at q
    rw [List.getElem?_set_ne hj]
    exact r j e q
theorem DReps.length : ∀ {ds : List D} {vs : List V}, DReps K m H ds vs → ds.length = vs.length
  | [], _, h => by rw [DReps] at h; subst h; rfl
  | d :: ds, _, h => by
    rw [DReps] at h
    obtain ⟨v, vs, rfl, _, h2⟩ := h
    simp [DReps.length h2]
theorem DReps.get : ∀ {ds : List D} {vs : List V} {i : Nat} {d : D}, DReps K m H ds vs → ds[i]? = some d → ∃ v, vs[i]? = some v ∧ DRep K m H d v
  | [], _, _, _, _, q => by simp at q
  | d :: ds, _, i, e, h, q => by
    rw [DReps] at h
    obtain ⟨v, vs, rfl, h1, h2⟩ := h
    cases i with
    | zero => simp at q; subst q; exact ⟨v, rfl, h1⟩
    | succ i => simpa using DReps.get (i := i) h2 (by simpa using q)
theorem DReps.get' : ∀ {ds : List D} {vs : List V} {i : Nat} {v : V}, DReps K m H ds vs → vs[i]? = some v → ∃ d, ds[i]? = some d ∧ DRep K m H d v
  | [], _, _, _, h, q => by rw [DReps] at h; subst h; simp at q
  | d :: ds, _, i, e, h, q => by
    rw [DReps] at h
    obtain ⟨v, vs, rfl, h1, h2⟩ := h
    cases i with
    | zero => simp at q; subst q; exact ⟨d, rfl, h1⟩
    | succ i => simpa using DReps.get' (i := i) h2 (by simpa using q)
theorem DReps.append : ∀ {ds es : List D} {vs us : List V}, DReps K m H ds vs → DReps K m H es us → DReps K m H (ds ++ es) (vs ++ us)
  | [], _, _, _, h, k => by rw [DReps] at h; subst h; exact k
  | d :: ds, es, _, us, h, k => by
    rw [DReps] at h
    obtain ⟨v, vs, rfl, h1, h2⟩ := h
    show DReps K m H (d :: (ds ++ es)) (v :: (vs ++ us))
    rw [DReps]
    exact ⟨v, _, rfl, h1, DReps.append h2 k⟩
theorem DReps.take : ∀ {ds : List D} {vs : List V} (n : Nat), DReps K m H ds vs → DReps K m H (ds.take n) (vs.take n)
  | _, _, 0, _ => by simp [DReps]
  | [], _, n + 1, h => by rw [DReps] at h; subst h; simp [DReps]
  | d :: ds, _, n + 1, h => by
    rw [DReps] at h
    obtain ⟨v, vs, rfl, h1, h2⟩ := h
    show DReps K m H (d :: ds.take n) (v :: vs.take n)
    rw [DReps]
    exact ⟨v, _, rfl, h1, DReps.take n h2⟩
theorem DReps.drop : ∀ {ds : List D} {vs : List V} (n : Nat), DReps K m H ds vs → DReps K m H (ds.drop n) (vs.drop n)
  | _, _, 0, h => by simpa using h
  | [], _, n + 1, h => by rw [DReps] at h; subst h; simp [DReps]
  | d :: ds, _, n + 1, h => by
    rw [DReps] at h
    obtain ⟨v, vs, rfl, h1, h2⟩ := h
    exact DReps.drop n h2
theorem DReps.set : ∀ {ds : List D} {vs : List V} (i : Nat) {d : D} {v : V}, DReps K m H ds vs → DRep K m H d v → DReps K m H (ds.set i d) (vs.set i v)
  | [], _, i, _, _, h, k => by rw [DReps] at h; subst h; simp [DReps]
  | d :: ds, _, 0, e, u, h, k => by
    rw [DReps] at h
    obtain ⟨v, vs, rfl, h1, h2⟩ := h
    show DReps K m H (e :: ds) (u :: vs)
    rw [DReps]
    exact ⟨u, vs, rfl, k, h2⟩
  | d :: ds, _, i + 1, e, u, h, k => by
    rw [DReps] at h
    obtain ⟨v, vs, rfl, h1, h2⟩ := h
    show DReps K m H (d :: ds.set i e) (v :: vs.set i u)
    rw [DReps]
    exact ⟨v, _, rfl, h1, DReps.set i h2 k⟩
theorem RhoRep.start {N : List Str} {ds : List D} {vs : List V} (h : DReps K m H ds vs) : RhoRep K m H (ds.map some ++ List.replicate (N.length - ds.length) none) (start N vs) := fun i d q => by
  unfold L2.start
  by_cases hi : i < ds.length
  · rw [List.getElem?_append_left (by simpa using hi)] at q
    rw [List.getElem?_append_left (by simpa [← h.length] using hi)]
    rw [List.getElem?_map] at q
    cases e : ds[i]? with
    | none => rw [e] at q; cases q
    | some d' =>
      rw [e] at q
      have q' : d' = d := by simpa using q
      subst q'
      obtain ⟨v, h1, h2⟩ := h.get e
      exact ⟨v, by rw [List.getElem?_map, h1]; rfl, h2⟩
  · rw [List.getElem?_append_right (by simpa using Nat.le_of_not_lt hi)] at q
    rw [List.getElem?_replicate] at q
    split at q <;> cases q
end

/-! ### the transformers -/
/-- what is wanted behind an L3 result: R says how the result lies -/
def Post {α β : Type} (K : KW) (T : List (Addr × Str)) (R : List Addr → Hp → α → β → Prop) (r : Res α) (m : List Addr) (H : Hp) (Q : β → Hp → Prop) (W : Exc → List Addr → Hp → Prop) : Prop :=
  match r with
  | .ok d g => ∀ m' H' v, Ext m H m' H' → S K T m' g H' → R m' H' d v → Q v H'
  | .er e g => ∀ m' H', Ext m H m' H' → S K T m' g H' → W e m' H'
  | .bad => False
section
variable {α β γ δ : Type} {K : KW} {T : List (Addr × Str)} {R : List Addr → Hp → α → β → Prop} {R2 : List Addr → Hp → γ → δ → Prop} {m m' : List Addr} {H H' : Hp}
theorem Post.ext {r : Res α} {Q : β → Hp → Prop} {W : Exc → List Addr → Hp → Prop} (h : Post K T R r m H Q W) (e : Ext m H m' H') : Post K T R r m' H' Q W := by
  cases r with
  | ok d g => exact fun m2 H2 v e2 s2 r2 => h m2 H2 v (e.trans e2) s2 r2
  | er x g => exact fun m2 H2 e2 s2 => h m2 H2 (e.trans e2) s2
  | bad => exact h
theorem Post.bind {r : Res α} {f : α → GH → Res γ} {Q : δ → Hp → Prop} {Q1 : β → Hp → Prop} {W : Exc → List Addr → Hp → Prop} (h : Post K T R2 (r.bind f) m H Q W)
    (k : ∀ m1 H1 d v g, Ext m H m1 H1 → S K T m1 g H1 → R m1 H1 d v → Post K T R2 (f d g) m1 H1 Q W → Q1 v H1) : Post K T R r m H Q1 W := by
  cases r with
  | ok d g => exact fun m1 H1 v e s r1 => k m1 H1 d v g e s r1 (Post.ext (r := f d g) h e)
  | er x g => exact h
  | bad => exact h
theorem Post.mono {r : Res α} {Q Q' : β → Hp → Prop} {W W' : Exc → List Addr → Hp → Prop} (h : Post K T R r m H Q W) (hQ : ∀ v H, Q v H → Q' v H) (hW : ∀ e m H, W e m H → W' e m H) : Post K T R r m H Q' W' := by
  cases r with
  | ok d g => exact fun m1 H1 v e s r1 => hQ _ _ (h m1 H1 v e s r1)
  | er x g => exact fun m1 H1 e s => hW _ _ _ (h m1 H1 e s)
  | bad => exact h
/-- a result that stands already -/
theorem Post.here {d : α} {g : GH} {v : β} {Q : β → Hp → Prop} {W : Exc → List Addr → Hp → Prop} (h : Post K T R (.ok d g) m H Q W) (s : S K T m g H) (r : R m H d v) : Q v H := h m H v .refl s r
end

def ERep (ec : Nat → Addr) (K : KW) (m : List Addr) (H : Hp) : Exc → Value → Option Addr → Prop
  | .own c, cls, d => cls = .ref (ec c) ∧ d = none
  | .lim c x, cls, d => cls = .ref (ec c) ∧ ∃ dd v, d = some dd ∧ H dd = some (.xd [(("limit" : Str), v)]) ∧ DRep K m H x v
/-- what a row tells of itself -/
structure Row where
  K : KW
  T : List (Addr × Str)
  ec : Nat → Addr
abbrev EV := Rho → GH → Res D
abbrev AV := Rho → GH → Res (List D)
abbrev TV := Rho → GH → Res Bool
abbrev WofX (Z : Row) (W : WX) (σ : L2.St) : Exc → List Addr → Hp → Prop := fun e m H => ∀ cls d, ERep Z.ec Z.K m H e cls d → W cls d σ H
abbrev RD (Z : Row) : List Addr → Hp → D → V → Prop := fun m H d v => DRep Z.K m H d v
abbrev RDs (Z : Row) : List Addr → Hp → List D → List V → Prop := fun m H d v => DReps Z.K m H d v
abbrev RB : List Addr → Hp → Bool → Bool → Prop := fun _ _ b c => b = c
/-- an expression's reading -/
def tE (Z : Row) (ev : EV) (W : WX) : TE := fun σ H Q => ∃ m g ρ, S Z.K Z.T m g H ∧ RhoRep Z.K m H ρ σ ∧ Post Z.K Z.T (RD Z) (ev ρ g) m H Q (WofX Z W σ)
def tA3 (Z : Row) (av : AV) (W : WX) : TA := fun σ H Q => ∃ m g ρ, S Z.K Z.T m g H ∧ RhoRep Z.K m H ρ σ ∧ Post Z.K Z.T (RDs Z) (av ρ g) m H Q (WofX Z W σ)
def tT (Z : Row) (tv : TV) (W : WX) : TT := fun σ H Q => ∃ m g ρ, S Z.K Z.T m g H ∧ RhoRep Z.K m H ρ σ ∧ Post Z.K Z.T RB (tv ρ g) m H Q (WofX Z W σ)
/-- what a statement comes to -/
inductive Out where
  | nx (ρ : Rho) (g : GH) | rt (d : D) (g : GH) | bk (ρ : Rho) (g : GH) | ct (ρ : Rho) (g : GH) | er (e : Exc) (ρ : Rho) (g : GH) | bad
abbrev SV := Rho → GH → Out
def PostS (Z : Row) (o : Out) (m : List Addr) (H : Hp) (n : Nat) (D : Ends) (W : WX) : Prop :=
  match o with
  | .nx ρ g => ∀ m' H' σ', Ext m H m' H' → S Z.K Z.T m' g H' → σ'.length = n → RhoRep Z.K m' H' ρ σ' → D.nx σ' H'
  | .rt d g => ∀ m' H' v, Ext m H m' H' → S Z.K Z.T m' g H' → DRep Z.K m' H' d v → D.rt v H'
  | .bk ρ g => ∀ m' H' σ', Ext m H m' H' → S Z.K Z.T m' g H' → σ'.length = n → RhoRep Z.K m' H' ρ σ' → D.bk σ' H'
  | .ct ρ g => ∀ m' H' σ', Ext m H m' H' → S Z.K Z.T m' g H' → σ'.length = n → RhoRep Z.K m' H' ρ σ' → D.ct σ' H'
  | .er e ρ g => ∀ m' H' σ' cls d, Ext m H m' H' → S Z.K Z.T m' g H' → σ'.length = n → RhoRep Z.K m' H' ρ σ' → ERep Z.ec Z.K m' H' e cls d → W cls d σ' H'
  | .bad => False
def tS (Z : Row) (sv : SV) (W : WX) : TS := fun D σ H => ∃ m g ρ, S Z.K Z.T m g H ∧ RhoRep Z.K m H ρ σ ∧ PostS Z (sv ρ g) m H σ.length D W
theorem PostS.ext {Z : Row} {o : Out} {m m' : List Addr} {H H' : Hp} {n : Nat} {D : Ends} {W : WX} (h : PostS Z o m H n D W) (e : Ext m H m' H') : PostS Z o m' H' n D W := by
  cases o with
  | nx ρ g => exact fun m2 H2 σ2 e2 => h m2 H2 σ2 (e.trans e2)
  | rt d g => exact fun m2 H2 v e2 => h m2 H2 v (e.trans e2)
  | bk ρ g => exact fun m2 H2 σ2 e2 => h m2 H2 σ2 (e.trans e2)
  | ct ρ g => exact fun m2 H2 σ2 e2 => h m2 H2 σ2 (e.trans e2)
  | er x ρ g => exact fun m2 H2 σ2 c d e2 => h m2 H2 σ2 c d (e.trans e2)
  | bad => exact h
theorem _root_.L2.PE.imp {X : Cx} {e : Expr} {t t' : TE} (h : PE X e t) (k : ∀ σ H Q, t' σ H Q → t σ H Q) : PE X e t' := ⟨fun pins s σ H Q I q => h.run pins s σ H Q I (k σ H Q q)⟩
theorem _root_.L2.PT.imp {X : Cx} {e : Expr} {t t' : TT} (h : PT X e t) (k : ∀ σ H Q, t' σ H Q → t σ H Q) : PT X e t' := ⟨fun pins s σ H Q I q => h.run pins s σ H Q I (k σ H Q q)⟩
theorem _root_.L2.PW.imp {X : Cx} {e : Expr} {t t' : TT} (h : PW X e t) (k : ∀ σ H Q, t' σ H Q → t σ H Q) : PW X e t' := ⟨fun wh pins s σ H Q I q => h.run wh pins s σ H Q I (k σ H Q q)⟩
theorem _root_.L2.PA.imp {X : Cx} {e : List Expr} {t t' : TA} (h : PA X e t) (k : ∀ σ H Q, t' σ H Q → t σ H Q) : PA X e t' := ⟨fun pos pins s σ H Q I q => h.run pos pins s σ H Q I (k σ H Q q)⟩
theorem _root_.L2.PS.imp {X : Cx} {e : Stmt} {t t' : TS} (h : PS X e t) (k : ∀ D (σ : L2.St) H, σ.length = X.N.length → t' D σ H → t D σ H) : PS X e t' := ⟨fun pins s σ H Q I q => h.run pins s σ H Q I (k Q σ H I.len q)⟩
theorem _root_.L2.PSs.imp {X : Cx} {e : List Stmt} {t t' : TS} (h : PSs X e t) (k : ∀ D (σ : L2.St) H, σ.length = X.N.length → t' D σ H → t D σ H) : PSs X e t' := ⟨fun pins s σ H Q I q => h.run pins s σ H Q I (k Q σ H I.len q)⟩
end L3

/-! L3b: expressions. -/
namespace L3
open PySem PySem.Spec PyProof.Rows L2

def liftO {α : Type} (o : Option (α × GH)) : Res α := match o with
  | some (a, g) => .ok a g
  | none => .bad
@[simp] theorem liftO_some {α : Type} (a : α) (g : GH) : liftO (some (a, g)) = .ok a g := rfl
@[simp] theorem liftO_none {α : Type} : liftO (none : Option (α × GH)) = .bad := rfl
theorem Post.lift {α β : Type} {K : KW} {T : List (Addr × Str)} {R : List Addr → Hp → α → β → Prop} {o : Option (α × GH)} {m : List Addr} {H : Hp} {Q : β → Hp → Prop} {W W' : Exc → List Addr → Hp → Prop}
    (h : Post K T R (liftO o) m H Q W) : Post K T R (liftO o) m H Q W' := by
  cases o with
  | none => exact h
  | some p => exact h
abbrev F1 := D → GH → Option (D × GH)
abbrev F2 := D → D → GH → Option (D × GH)
abbrev FN := List D → GH → Option (D × GH)
abbrev W0 : Exc → List Addr → Hp → Prop := fun _ _ _ => False
def r1 (Z : Row) (f : F1) : V → Hp → VK → Prop := fun x H Q => ∃ m g d, S Z.K Z.T m g H ∧ DRep Z.K m H d x ∧ Post Z.K Z.T (RD Z) (liftO (f d g)) m H Q W0
def r2 (Z : Row) (f : F2) : L2.R2 := fun x y H Q => ∃ m g d e, S Z.K Z.T m g H ∧ DRep Z.K m H d x ∧ DRep Z.K m H e y ∧ Post Z.K Z.T (RD Z) (liftO (f d e g)) m H Q W0
def rN (Z : Row) (f : FN) : List V → Hp → VK → Prop := fun xs H Q => ∃ m g ds, S Z.K Z.T m g H ∧ DReps Z.K m H ds xs ∧ Post Z.K Z.T (RD Z) (liftO (f ds g)) m H Q W0

/-! ### the language's expressions -/
def eVar (i : Nat) : EV := fun ρ g => match ρ[i]? with
  | some (some d) => .ok d g
  | _ => .bad
def eC (d : D) : EV := fun _ g => .ok d g
def eBin (f : F2) (a b : EV) : EV := fun ρ g => (a ρ g).bind fun d g1 => (b ρ g1).bind fun e g2 => liftO (f d e g2)
def eUn (f : F1) (a : EV) : EV := fun ρ g => (a ρ g).bind fun d g1 => liftO (f d g1)
def eBi (f : FN) (as : AV) : EV := fun ρ g => (as ρ g).bind fun ds g1 => liftO (f ds g1)
def aNil : AV := fun _ g => .ok [] g
def aCons (a : EV) (as : AV) : AV := fun ρ g => (a ρ g).bind fun d g1 => (as ρ g1).bind fun ds g2 => .ok (d :: ds) g2
def eTup (as : AV) : EV := fun ρ g => (as ρ g).bind fun ds g1 => if ds.length ≤ 16777216 then .ok (.tup ds) g1 else .bad
def eLst (as : AV) : EV := fun ρ g => (as ρ g).bind fun ds g1 => if ds.length ≤ 16777216 then .ok (.ref g1.length) (g1 ++ [.lst ds]) else .bad
def tB3 (a : EV) : TV := fun ρ g => (a ρ g).bind fun d g1 => match d with
  | .bl b => .ok b g1
  | _ => .bad
def tAnd3 (a b : TV) : TV := fun ρ g => (a ρ g).bind fun c g1 => if c then b ρ g1 else .ok false g1
def tOr3 (a b : TV) : TV := fun ρ g => (a ρ g).bind fun c g1 => if c then .ok true g1 else b ρ g1
def tNot3 (a : TV) : TV := fun ρ g => (a ρ g).bind fun c g1 => .ok (!c) g1
def eAnd (a b : EV) : EV := fun ρ g => (a ρ g).bind fun d g1 => match d with
  | .bl true => b ρ g1
  | .bl false => .ok (.bl false) g1
  | _ => .bad
def eOr (a b : EV) : EV := fun ρ g => (a ρ g).bind fun d g1 => match d with
  | .bl false => b ρ g1
  | .bl true => .ok (.bl true) g1
  | _ => .bad
def eNot (a : EV) : EV := fun ρ g => (a ρ g).bind fun d g1 => match d with
  | .bl b => .ok (.bl !b) g1
  | _ => .bad
def eIf (t : TV) (a b : EV) : EV := fun ρ g => (t ρ g).bind fun c g1 => if c then a ρ g1 else b ρ g1
def eCall (f : List D → GH → Res D) (as : AV) : EV := fun ρ g => (as ρ g).bind f
def eChain (f1 f2 : F2) (a b c : EV) : EV := fun ρ g => (a ρ g).bind fun x g1 => (b ρ g1).bind fun y g2 => (liftO (f1 x y g2)).bind fun k g3 => match k with
  | .bl true => (c ρ g3).bind fun z g4 => liftO (f2 y z g4)
  | .bl false => .ok (.bl false) g3
  | _ => .bad

section
variable {X : Cx} {Z : Row} {W : WX} {pos : Pos} {a b c : Expr} {ea eb ecc : EV} {ta tb : TV} {es : List Expr} {as : AV}
theorem pe3_var (i : Nat) {x : Str} (hN : X.N[i]? = some x := by rfl) (hv : Vis X.env.scope x := by first | exact Or.inl rfl | exact Or.inr (Or.inl rfl) | exact Or.inr (Or.inr rfl)) (hd : (x == ("__debug__" : Str)) = false := by decide)
    (hcd : (x == ("__classdict__" : Str)) = false := by decide) : PE X (.Name x pos) (tE Z (eVar i) W) := (pe_var hN hv hd hcd).imp fun σ H Q ⟨m, g, ρ, s, r, h⟩ => by
  unfold eVar at h
  split at h
  · rename_i d e
    obtain ⟨v, h1, h2⟩ := r i d e
    exact ⟨v, h1, h.here s h2⟩
  · exact h.elim
theorem pe3_int {i j} : PE X (.Constant (.int i) j pos) (tE Z (eC (.int i)) W) := pe_int.imp fun σ H Q ⟨m, g, ρ, s, r, h⟩ => Post.here (d := D.int i) h s (by simp [DRep])
theorem pe3_bl {i j} : PE X (.Constant (.bool i) j pos) (tE Z (eC (.bl i)) W) := pe_bl.imp fun σ H Q ⟨m, g, ρ, s, r, h⟩ => Post.here (d := D.bl i) h s (by simp [DRep])
theorem pe3_non {j} : PE X (.Constant .none j pos) (tE Z (eC .non) W) := pe_non.imp fun σ H Q ⟨m, g, ρ, s, r, h⟩ => Post.here (d := D.non) h s (by simp [DRep])
theorem pe3_str {i j} : PE X (.Constant (.str i) j pos) (tE Z (eC (.str i)) W) := pe_str.imp fun σ H Q ⟨m, g, ρ, s, r, h⟩ => Post.here (d := D.str i) h s (by simp [DRep])
/-- a constant of the module -/
theorem pe3_glob {x : Str} {d : D} {v : V} {u : Value} (hg : Gl X x) (hm : X.mg x = some u) (r : RelV v u) (hr : ∀ m H, DRep Z.K m H d v) (hd : (x == ("__debug__" : Str)) = false := by decide) : PE X (.Name x pos) (tE Z (eC d) W) :=
  (pe_glob hg hm r hd).imp fun σ H Q ⟨m, g, ρ, s, r, h⟩ => Post.here (d := d) h s (hr _ _)

/-- two in a row -/
theorem two {Q : V → V → Hp → Prop} {f : D → D → GH → Res D} {Q0 : VK} {σ : L2.St} {H : Hp} {ρ : Rho} {m : List Addr} {g : GH} (s : S Z.K Z.T m g H) (r : RhoRep Z.K m H ρ σ)
    (h : Post Z.K Z.T (RD Z) ((ea ρ g).bind fun d g1 => (eb ρ g1).bind fun e g2 => f d e g2) m H Q0 (WofX Z W σ))
    (k : ∀ m2 H2 d e v u g2, Ext m H m2 H2 → S Z.K Z.T m2 g2 H2 → DRep Z.K m2 H2 d v → DRep Z.K m2 H2 e u → RhoRep Z.K m2 H2 ρ σ → Post Z.K Z.T (RD Z) (f d e g2) m2 H2 Q0 (WofX Z W σ) → Q v u H2) :
    tE Z ea W σ H fun x H1 => tE Z eb W σ H1 fun y H2 => Q x y H2 :=
  ⟨m, g, ρ, s, r, h.bind fun m1 H1 d v g1 e1 s1 r1 h1 => ⟨m1, g1, ρ, s1, r.mono e1, h1.bind fun m2 H2 e u g2 e2 s2 r2 h2 => k m2 H2 d e v u g2 (e1.trans e2) s2 (r1.mono e2) r2 ((r.mono e1).mono e2) h2⟩⟩
theorem pe3_bin {op : Operator} {f : F2} (ho : OpR X (binaryOp op) (r2 Z f)) (ha : PE X a (tE Z ea W)) (hb : PE X b (tE Z eb W)) : PE X (.BinOp a op b pos) (tE Z (eBin f ea eb) W) :=
  (pe_op ho ha hb).imp fun σ H Q ⟨m, g, ρ, s, r, h⟩ => two (f := fun d e g => liftO (f d e g)) s r h fun m2 H2 d e v u g2 _ s2 r1 r2 _ h2 => ⟨m2, g2, d, e, s2, r1, r2, h2.lift⟩
theorem pe3_cmp {op : CmpOp} {f : F2} (ho : OpR X (compareOp op) (r2 Z f)) (ha : PE X a (tE Z ea W)) (hb : PE X b (tE Z eb W)) (hm : behindInMarks op b = false := by first | exact nomark _ | rfl) : PE X (.Compare a [op] [b] pos) (tE Z (eBin f ea eb) W) :=
  (pe_cmpR ho ha hb hm).imp fun σ H Q ⟨m, g, ρ, s, r, h⟩ => two (f := fun d e g => liftO (f d e g)) s r h fun m2 H2 d e v u g2 _ s2 r1 r2 _ h2 => ⟨m2, g2, d, e, s2, r1, r2, h2.lift⟩
theorem pt3_cmp {op : CmpOp} {f : F2} (ho : OpR X (compareOp op) (r2 Z f)) (ha : PE X a (tE Z ea W)) (hb : PE X b (tE Z eb W)) (hm : behindInMarks op b = false := by first | exact nomark _ | rfl) : PT X (.Compare a [op] [b] pos) (tT Z (tB3 (eBin f ea eb)) W) :=
  (pt_cmpR ho ha hb hm).imp fun σ H Q ⟨m, g, ρ, s, r, h⟩ => by
    unfold tB3 eBin at h
    show tE Z ea W σ H fun x H1 => tE Z eb W σ H1 fun y H2 => r2 Z f x y H2 fun x H' => ∃ k, x = .bl k ∧ Q k H'
    refine ⟨m, g, ρ, s, r, ?_⟩
    cases e1 : ea ρ g with
    | bad => rw [e1] at h; exact h
    | er x g1 => rw [e1] at h; exact h
    | ok d g1 =>
      rw [e1] at h
      intro m1 H1 v x1 s1 r1
      refine ⟨m1, g1, ρ, s1, r.mono x1, ?_⟩
      simp only [Res.bind_ok] at h
      cases e2 : eb ρ g1 with
      | bad => rw [e2] at h; exact h
      | er x g1 => rw [e2] at h; exact Post.ext (r := Res.er (α := Bool) _ _) h x1
      | ok e g2 =>
        rw [e2] at h
        intro m2 H2 u x2 s2 r2
        refine ⟨m2, g2, d, e, s2, r1.mono x2, r2, ?_⟩
        simp only [Res.bind_ok] at h
        cases e3 : f d e g2 with
        | none => rw [e3] at h; exact h
        | some p =>
          rw [e3] at h
          intro m3 H3 w x3 s3 r3
          have h' : Post Z.K Z.T RB (match p.1 with | .bl b => Res.ok b p.2 | _ => .bad) m H Q (WofX Z W σ) := h
          split at h'
          · rename_i b eb
            rw [eb] at r3
            refine ⟨b, by simpa [DRep] using r3, ?_⟩
            exact h' m3 H3 b ((x1.trans x2).trans x3) s3 rfl
          · exact h'.elim
theorem pe3_un {op : UnaryOp} {f : F1} (ho : UnR X (unaryOp op) (r1 Z f)) (ha : PE X a (tE Z ea W)) : PE X (.UnaryOp op a pos) (tE Z (eUn f ea) W) :=
  (pe_un ho ha).imp fun σ H Q ⟨m, g, ρ, s, r, h⟩ => ⟨m, g, ρ, s, r, Post.bind h fun m1 H1 d v g1 e1 s1 r1 h1 => ⟨m1, g1, d, s1, r1, h1.lift⟩⟩
theorem pa3_nil : PA X [] (tA3 Z aNil W) := pa_nil.imp fun σ H Q ⟨m, g, ρ, s, r, h⟩ => Post.here (d := ([] : List D)) h s (by simp [DReps])
theorem pa3_cons {e : Expr} (he : PE X e (tE Z ea W)) (hs : PA X es (tA3 Z as W)) (hx : starEach (e :: es) X.env = (false, eval e X.env) :: starEach es X.env := by rfl) : PA X (e :: es) (tA3 Z (aCons ea as) W) :=
  (pa_cons he hs hx).imp fun σ H Q ⟨m, g, ρ, s, r, h⟩ => ⟨m, g, ρ, s, r, Post.bind h fun m1 H1 d v g1 e1 s1 r1 h1 => ⟨m1, g1, ρ, s1, r.mono e1, Post.bind h1 fun m2 H2 ds vs g2 e2 s2 r2 h2 =>
    Post.here (d := d :: ds) h2 s2 (by show DReps _ _ _ (d :: ds) (v :: vs); rw [DReps]; exact ⟨v, vs, rfl, r1.mono e2, r2⟩)⟩⟩
theorem len_line {ds : List D} {vs : List V} {K : KW} {m : List Addr} {H : Hp} (r : DReps K m H ds vs) (h : ds.length ≤ 16777216) : vs.length ≤ sizeLine := by rw [← r.length, sizeLine_eq]; exact h
theorem pe3_tup {x1} (h : PA X es (tA3 Z as W)) : PE X (.Tuple es x1 pos) (tE Z (eTup as) W) :=
  (pe_tup h).imp fun σ H Q ⟨m, g, ρ, s, r, h⟩ => ⟨m, g, ρ, s, r, Post.bind h fun m1 H1 ds vs g1 e1 s1 r1 h1 => by
    split at h1
    · rename_i hl
      refine ⟨len_line r1 hl, fun p hp => ?_⟩
      obtain ⟨e2, s2⟩ := s1.laid (u := .tup vs) hp
      exact h1 m1 _ (.ref p) e2 s2 (by show DRep _ _ _ (.tup ds) _; rw [DRep]; exact ⟨p, vs, rfl, SqT.of upd_same, DReps.mono e2 _ _ r1⟩)
    · exact h1.elim⟩
theorem lst_new {m : List Addr} {g : GH} {H : Hp} {ds : List D} {vs : List V} {p : Addr} {K : KW} {T : List (Addr × Str)} (s : S K T m g H) (r : DReps K m H ds vs) (hp : H p = none) :
    Ext m H (m ++ [p]) (upd H p (.lst vs)) ∧ S K T (m ++ [p]) (g ++ [.lst ds]) (upd H p (.lst vs)) ∧ DRep K (m ++ [p]) (upd H p (.lst vs)) (.ref g.length) (.ref p) := by
  have k : ∀ b o, H b = some o → upd H p (.lst vs) b = some o := fun b o h => by rw [upd_ne (ne_of_none h hp)]; exact h
  have e0 : Ext m H (m ++ [p]) (upd H p (.lst vs)) := ⟨⟨[p], rfl, fun b h => by simp at h; rw [h]; exact fr0_none hp⟩, fun b xs h => k _ _ h, fun b o u h => k _ _ h, fun b o h _ _ => k _ _ h, fun b h o q => h o (k b o q)⟩
  obtain ⟨e, s2⟩ := s.new (u := .lst vs) (o := .lst ds) hp ⟨vs, upd_same, DReps.mono e0 _ _ r⟩
  refine ⟨e, s2, ?_⟩
  rw [DRep]
  exact ⟨p, rfl, by rw [← s.len]; simp⟩
theorem pe3_lst (h : PA X es (tA3 Z as W)) : PE X (.List es pos) (tE Z (eLst as) W) :=
  (pe_lst h).imp fun σ H Q ⟨m, g, ρ, s, r, h⟩ => ⟨m, g, ρ, s, r, Post.bind h fun m1 H1 ds vs g1 e1 s1 r1 h1 => by
    split at h1
    · rename_i hl
      refine ⟨len_line r1 hl, fun p hp => ?_⟩
      obtain ⟨e2, s2, r2⟩ := lst_new s1 r1 hp
      exact h1 _ _ (.ref p) e2 s2 r2
    · exact h1.elim⟩
/-! tests -/
theorem pt3_val (h : PE X a (tE Z ea W)) (he : ∀ whole, isTrue a X.env whole = (do let v ← whole; standAt a.pos; holding [v] (truthy v)) := by intro _; rfl) : PT X a (tT Z (tB3 ea) W) :=
  (pt_val h he).imp fun σ H Q ⟨m, g, ρ, s, r, h⟩ => ⟨m, g, ρ, s, r, Post.bind h fun m1 H1 d v g1 e1 s1 r1 h1 => by
    split at h1
    · rename_i b
      exact ⟨b, by simpa [DRep] using r1, Post.here (d := b) h1 s1 rfl⟩
    · exact h1.elim⟩
theorem pw3_and1 (ha : PT X a (tT Z ta W)) : PW X (.BoolOp .And [a] pos) (tT Z ta W) := pw_and1 ha
theorem pw3_or1 (ha : PT X a (tT Z ta W)) : PW X (.BoolOp .Or [a] pos) (tT Z ta W) := pw_or1 ha
theorem pw3_and {rest : List Expr} (ha : PT X a (tT Z ta W)) (hb : PW X (.BoolOp .And (b :: rest) pos) (tT Z tb W)) : PW X (.BoolOp .And (a :: b :: rest) pos) (tT Z (tAnd3 ta tb) W) :=
  (pw_and ha hb).imp fun σ H Q ⟨m, g, ρ, s, r, h⟩ => ⟨m, g, ρ, s, r, Post.bind h fun m1 H1 c v g1 e1 s1 r1 h1 => by
    cases r1
    cases c with
    | true => rw [if_pos rfl] at h1 ⊢; exact ⟨m1, g1, ρ, s1, r.mono e1, h1⟩
    | false => rw [if_neg Bool.false_ne_true] at h1 ⊢; exact Post.here (d := false) h1 s1 rfl⟩
theorem pw3_or {rest : List Expr} (ha : PT X a (tT Z ta W)) (hb : PW X (.BoolOp .Or (b :: rest) pos) (tT Z tb W)) : PW X (.BoolOp .Or (a :: b :: rest) pos) (tT Z (tOr3 ta tb) W) :=
  (pw_or ha hb).imp fun σ H Q ⟨m, g, ρ, s, r, h⟩ => ⟨m, g, ρ, s, r, Post.bind h fun m1 H1 c v g1 e1 s1 r1 h1 => by
    cases r1
    cases c with
    | true => rw [if_pos rfl] at h1 ⊢; exact Post.here (d := true) h1 s1 rfl
    | false => rw [if_neg Bool.false_ne_true] at h1 ⊢; exact ⟨m1, g1, ρ, s1, r.mono e1, h1⟩⟩
theorem pt3_not (ha : PT X a (tT Z ta W)) : PT X (.UnaryOp .Not a pos) (tT Z (tNot3 ta) W) :=
  (pt_not ha).imp fun σ H Q ⟨m, g, ρ, s, r, h⟩ => ⟨m, g, ρ, s, r, Post.bind h fun m1 H1 c v g1 e1 s1 r1 h1 => by
    cases r1
    exact Post.here (d := !c) h1 s1 rfl⟩
theorem pe3_one {op} (ha : PE X a (tE Z ea W)) : PE X (.BoolOp op [a] pos) (tE Z ea W) := pe_one ha
theorem pe3_and {rest : List Expr} (ha : PE X a (tE Z ea W)) (hb : PE X (.BoolOp .And (b :: rest) pos) (tE Z eb W)) : PE X (.BoolOp .And (a :: b :: rest) pos) (tE Z (eAnd ea eb) W) :=
  (pe_and ha hb).imp fun σ H Q ⟨m, g, ρ, s, r, h⟩ => ⟨m, g, ρ, s, r, Post.bind h fun m1 H1 d v g1 e1 s1 r1 h1 => by
    split at h1
    · refine ⟨true, by simpa [DRep] using r1, ?_⟩
      rw [if_pos rfl]
      exact ⟨m1, g1, ρ, s1, r.mono e1, h1⟩
    · refine ⟨false, by simpa [DRep] using r1, ?_⟩
      rw [if_neg Bool.false_ne_true]
      exact Post.here (d := D.bl false) h1 s1 (by simp [DRep])
    · exact h1.elim⟩
theorem pe3_or {rest : List Expr} (ha : PE X a (tE Z ea W)) (hb : PE X (.BoolOp .Or (b :: rest) pos) (tE Z eb W)) : PE X (.BoolOp .Or (a :: b :: rest) pos) (tE Z (eOr ea eb) W) :=
  (pe_or ha hb).imp fun σ H Q ⟨m, g, ρ, s, r, h⟩ => ⟨m, g, ρ, s, r, Post.bind h fun m1 H1 d v g1 e1 s1 r1 h1 => by
    split at h1
    · refine ⟨false, by simpa [DRep] using r1, ?_⟩
      rw [if_neg Bool.false_ne_true]
      exact ⟨m1, g1, ρ, s1, r.mono e1, h1⟩
    · refine ⟨true, by simpa [DRep] using r1, ?_⟩
      rw [if_pos rfl]
      exact Post.here (d := D.bl true) h1 s1 (by simp [DRep])
    · exact h1.elim⟩
theorem pe3_not (ha : PE X a (tE Z ea W)) : PE X (.UnaryOp .Not a pos) (tE Z (eNot ea) W) :=
  (L2.pe_not ha).imp fun σ H Q ⟨m, g, ρ, s, r, h⟩ => ⟨m, g, ρ, s, r, Post.bind h fun m1 H1 d v g1 e1 s1 r1 h1 => by
    split at h1
    · rename_i b
      exact ⟨b, by simpa [DRep] using r1, Post.here (d := D.bl !b) h1 s1 (by simp [DRep])⟩
    · exact h1.elim⟩
theorem pe3_if (ht : PT X c (tT Z ta W)) (ha : PE X a (tE Z ea W)) (hb : PE X b (tE Z eb W)) : PE X (.IfExp c a b pos) (tE Z (eIf ta ea eb) W) :=
  (pe_ifExp ht ha hb).imp fun σ H Q ⟨m, g, ρ, s, r, h⟩ => ⟨m, g, ρ, s, r, Post.bind h fun m1 H1 k v g1 e1 s1 r1 h1 => by
    cases r1
    cases k with
    | true => rw [if_pos rfl] at h1 ⊢; exact ⟨m1, g1, ρ, s1, r.mono e1, h1⟩
    | false => rw [if_neg Bool.false_ne_true] at h1 ⊢; exact ⟨m1, g1, ρ, s1, r.mono e1, h1⟩⟩
/-! calls -/
/-- the promise of a def that computes f -/
def spOf (Z : Row) (n : Nat) (f : List D → GH → Res D) : Sp := fun vs H Q E => vs.length = n ∧ ∃ m g ds, S Z.K Z.T m g H ∧ DReps Z.K m H ds vs ∧
  Post Z.K Z.T (RD Z) (f ds g) m H Q fun e m' H' => ∀ cls d, ERep Z.ec Z.K m' H' e cls d → E cls d H'
theorem pe3_call {k n : Nat} {f : Addr} {fd : FuncData} {ps : List Str} {F : List D → GH → Res D} {x : Str} {p : Pos} {e : Expr} (G : FnOk X.prog X.w X.K X.mg X.base (L2.CX X.prog X.w) k f fd ps (spOf Z n F)) (hr : Room k X.A) (hg : Gl X x)
    (hm : X.mg x = some (.ref f)) (hk : PySem.W.keepIn X.K (.ref f) = true) (hb : Binds X.K fd ps []) (tk : Takes X W) (ha : PA X (e :: es) (tA3 Z as W)) (hn : (e :: es).length = n)
    (hlen : ∀ ρ g ds g', as ρ g = .ok ds g' → ds.length = n) (hdb : (x == ("__debug__" : Str)) = false := by decide) (he : starEach (e :: es) X.env = (false, eval e X.env) :: starEach es X.env := by rfl)
    (hpl : (backTo pos (starEach es X.env)).any (·.1) = false := by rfl) : PE X (.Call (.Name x p) (e :: es) [] pos) (tE Z (eCall F as) W) :=
  (pe_callS (E := WE W) G hr hg hm hk hb (fun σ => passAt tk σ) ha hdb he hpl).imp fun σ H Q ⟨m, g, ρ, s, r, h⟩ => by
    refine ⟨m, g, ρ, s, r, ?_⟩
    have h' : Post Z.K Z.T (RD Z) ((as ρ g).bind F) m H Q (WofX Z W σ) := h
    cases e1 : as ρ g with
    | bad => rw [e1] at h'; exact h'
    | er x g1 => rw [e1] at h'; exact h'
    | ok ds g1 =>
      rw [e1] at h'
      intro m1 H1 vs x1 s1 r1
      exact ⟨by rw [← DReps.length r1]; exact hlen ρ g ds g1 e1, m1, g1, ds, s1, r1, Post.ext (r := F ds g1) h' x1⟩
theorem pe3_bi {id : String} {f : FN} {x : Str} {p : Pos} {e : Expr} (hc : CallR X (.builtin id) (rN Z f)) (hg : Gl X x) (hm : X.mg x = none) (hv : bootBuiltins x = some (.builtin id)) (ha : PA X (e :: es) (tA3 Z as W)) (hn : x ≠ "__name__" := by decide)
    (hdb : (x == ("__debug__" : Str)) = false := by decide) (he : starEach (e :: es) X.env = (false, eval e X.env) :: starEach es X.env := by rfl) (hpl : (backTo pos (starEach es X.env)).any (·.1) = false := by rfl) : PE X (.Call (.Name x p) (e :: es) [] pos) (tE Z (eBi f as) W) :=
  (pe_callB hc hg hm hv ha hn hdb he hpl).imp fun σ H Q ⟨m, g, ρ, s, r, h⟩ => ⟨m, g, ρ, s, r, Post.bind h fun m1 H1 ds vs g1 e1 s1 r1 h1 => ⟨m1, g1, ds, s1, r1, h1.lift⟩⟩
theorem pe3_ty {id : String} {f : FN} {x : Str} {p : Pos} {e : Expr} (hc : CallR X (.type id) (rN Z f)) (hg : Gl X x) (hm : X.mg x = none) (hv : bootBuiltins x = some (.type id)) (ha : PA X (e :: es) (tA3 Z as W)) (hn : x ≠ "__name__" := by decide)
    (hdb : (x == ("__debug__" : Str)) = false := by decide) (he : starEach (e :: es) X.env = (false, eval e X.env) :: starEach es X.env := by rfl) (hpl : (backTo pos (starEach es X.env)).any (·.1) = false := by rfl) : PE X (.Call (.Name x p) (e :: es) [] pos) (tE Z (eBi f as) W) :=
  (pe_callTy hc hg hm hv ha hn hdb he hpl).imp fun σ H Q ⟨m, g, ρ, s, r, h⟩ => ⟨m, g, ρ, s, r, Post.bind h fun m1 H1 ds vs g1 e1 s1 r1 h1 => ⟨m1, g1, ds, s1, r1, h1.lift⟩⟩
theorem chain_read {f f' : F2} {σ : L2.St} {H : Hp} {Q : VK} : tE Z (eChain f f' ea eb ecc) W σ H Q → tChain (r2 Z f) (r2 Z f') (tE Z ea W) (tE Z eb W) (tE Z ecc W) σ H Q := fun ⟨m, g, ρ, s, r, h⟩ => two (f := fun x y g2 => (liftO (f x y g2)).bind fun k g3 => match k with
    | .bl true => (ecc ρ g3).bind fun z g4 => liftO (f' y z g4)
    | .bl false => .ok (.bl false) g3
    | _ => .bad) s r h fun m2 H2 d e v u g2 _ s2 rv ru rr h2 => by
      refine ⟨m2, g2, d, e, s2, rv, ru, ?_⟩
      cases e3 : f d e g2 with
      | none => rw [e3] at h2; exact h2
      | some p =>
        rw [e3] at h2
        intro m3 H3 w x3 s3 r3
        have h' : Post Z.K Z.T (RD Z) (match p.1 with | .bl true => (ecc ρ p.2).bind fun z g4 => liftO (f' e z g4) | .bl false => .ok (.bl false) p.2 | _ => .bad) m3 H3 Q (WofX Z W σ) := Post.ext h2 x3
        split at h'
        · rename_i eb
          rw [eb] at r3
          refine ⟨true, by simpa [DRep] using r3, ?_⟩
          rw [if_pos rfl]
          exact ⟨m3, p.2, ρ, s3, rr.mono x3, Post.bind h' fun m4 H4 z zz g4 e4 s4 r4 h4 => ⟨m4, g4, e, z, s4, (ru.mono x3).mono e4, r4, h4.lift⟩⟩
        · rename_i eb
          rw [eb] at r3
          refine ⟨false, by simpa [DRep] using r3, ?_⟩
          rw [if_neg Bool.false_ne_true]
          exact Post.here (d := D.bl false) h' s3 (by simp [DRep])
        · exact h'.elim
theorem pe3_chain {op op' : CmpOp} {f f' : F2} (ho : OpR X (compareOp op) (r2 Z f)) (ho' : OpR X (compareOp op') (r2 Z f')) (ha : PE X a (tE Z ea W)) (hb : PE X b (tE Z eb W)) (hc : PE X c (tE Z ecc W))
    (hm : lastMarks [op, op'] [b, c] = false := by with_unfolding_all rfl) : PE X (.Compare a [op, op'] [b, c] pos) (tE Z (eChain f f' ea eb ecc) W) :=
  (pe_chain ho ho' ha hb hc hm).imp fun _ _ _ h => chain_read h
/-- two comparisons as a test -/
theorem pt3_chain {op op' : CmpOp} {f f' : F2} (ho : OpR X (compareOp op) (r2 Z f)) (ho' : OpR X (compareOp op') (r2 Z f')) (ha : PE X a (tE Z ea W)) (hb : PE X b (tE Z eb W)) (hc : PE X c (tE Z ecc W))
    (hm : lastMarks [op, op'] [b, c] = false := by with_unfolding_all rfl) : PT X (.Compare a [op, op'] [b, c] pos) (tT Z (tB3 (eChain f f' ea eb ecc)) W) :=
  PT.imp (pt_chain ho ho' ha hb hc hm) fun σ H Q ⟨m, g, ρ, s, r, h⟩ => chain_read ⟨m, g, ρ, s, r, Post.bind h fun m1 H1 d v g1 e1 s1 r1 h1 => by
    split at h1
    · rename_i k
      exact ⟨k, by simpa [DRep] using r1, Post.here (d := k) h1 s1 rfl⟩
    · exact h1.elim⟩
end
end L3

/-! L3c: operators, subscripts, built-ins. -/
namespace L3
open PySem PySem.Spec PyProof.Rows L2

/-! ### data -/
def toPy (g : GH) : Nat → D → Option PyData
  | 0, _ => none
  | n + 1, d => match d with
    | .non => some .none
    | .bl b => some (.bool b)
    | .int i => some (.int i)
    | .str s => if PyData.strOk s then some (.str s) else none
    | .tup ds => (ds.mapM (toPy g n)).map .tuple
    | .rol ds => (ds.mapM (toPy g n)).map .list
    | .scr _ => none
    | .ref i => match g[i]? with
      | some (.lst ds) => (ds.mapM (toPy g n)).map .list
      | _ => none
section
variable {K : KW} {T : List (Addr × Str)} {m : List Addr} {H : Hp} {g : GH}
theorem dps (s : S K T m g H) {n : Nat} (ih : ∀ (d : D) (v : V) (p : PyData), DRep K m H d v → toPy g n d = some p → Dp K.K H v p) :
    ∀ (ds : List D) (vs : List V) (ps : List PyData), DReps K m H ds vs → ds.mapM (toPy g n) = some ps → DpAll K.K H vs ps
  | [], vs, ps, r, h => by
    rw [DReps] at r
    subst r
    have : ps = [] := by simpa using h.symm
    subst this
    exact .nil
  | d :: ds, vs, ps, r, h => by
    rw [DReps] at r
    obtain ⟨v, vs', rfl, h1, h2⟩ := r
    rw [List.mapM_cons] at h
    cases e1 : toPy g n d with
    | none => rw [e1] at h; cases h
    | some p =>
      cases e2 : ds.mapM (toPy g n) with
      | none => rw [e1, e2] at h; cases h
      | some qs =>
        rw [e1, e2] at h
        have : ps = p :: qs := by simpa using h.symm
        subst this
        exact .cons (ih d v p h1 e1) (dps s ih ds vs' qs h2 e2)
theorem dp_of (s : S K T m g H) : ∀ (n : Nat) (d : D) (v : V) (p : PyData), DRep K m H d v → toPy g n d = some p → Dp K.K H v p
  | 0, _, _, _, _, h => by cases h
  | n + 1, d, v, p, r, h => by
    have ih := dp_of s n
    unfold toPy at h
    cases d with
    | non => simp [DRep] at r h; subst r; subst h; exact .non
    | bl b => simp [DRep] at r h; subst r; subst h; exact .bl b
    | int b => simp [DRep] at r h; subst r; subst h; exact .int b
    | str b => simp [DRep] at r h; obtain ⟨_, h⟩ := h; subst r; subst h; exact .str b
    | tup ds =>
      rw [DRep] at r
      obtain ⟨a, xs, rfl, h1, h2⟩ := r
      simp only [Option.map_eq_some_iff] at h
      obtain ⟨ps, h3, rfl⟩ := h
      exact .tup h1 (dps s ih ds xs ps h2 h3)
    | rol ds =>
      rw [DRep] at r
      obtain ⟨a, xs, rfl, h1, h2⟩ := r
      simp only [Option.map_eq_some_iff] at h
      obtain ⟨ps, h3, rfl⟩ := h
      exact .lst h1.sql (dps s ih ds xs ps h2 h3)
    | scr ds => cases h
    | ref i =>
      rw [DRep] at r
      obtain ⟨a, rfl, h1⟩ := r
      obtain ⟨o, h2, h3⟩ := s.at h1
      simp only [h2] at h
      cases o with
      | lst ds =>
        obtain ⟨xs, h4, h5⟩ := h3
        simp only [Option.map_eq_some_iff] at h
        obtain ⟨ps, h6, rfl⟩ := h
        exact .lst (SqL.of h4) (dps s ih ds xs ps h5 h6)
      | iset _ => cases h
      | dct _ => cases h
      | dcf _ => cases h
      | dkn _ => cases h
theorem shaped_alls {g : GH} {n : Nat} (ih : ∀ (d : D) (p : PyData), toPy g n d = some p → p.canLay0 = true ∧ p.depth ≤ n) :
    ∀ (ds : List D) (ps : List PyData), ds.mapM (toPy g n) = some ps → PyData.canLayAll0 ps = true ∧ PyData.depthAll ps ≤ n
  | [], ps, h => by
    have : ps = [] := by simpa using h.symm
    subst this
    simp [PyData.canLayAll0, PyData.depthAll]
  | d :: ds, ps, h => by
    rw [List.mapM_cons] at h
    cases e1 : toPy g n d with
    | none => rw [e1] at h; cases h
    | some p =>
      cases e2 : ds.mapM (toPy g n) with
      | none => rw [e1, e2] at h; cases h
      | some qs =>
        rw [e1, e2] at h
        have : ps = p :: qs := by simpa using h.symm
        subst this
        obtain ⟨a1, a2⟩ := ih d p e1
        obtain ⟨b1, b2⟩ := shaped_alls ih ds qs e2
        simp only [PyData.canLayAll0, PyData.depthAll, a1, b1, Bool.and_self, true_and]
        omega
theorem shaped_to {g : GH} : ∀ (n : Nat) (d : D) (p : PyData), toPy g n d = some p → p.canLay0 = true ∧ p.depth ≤ n
  | 0, _, _, h => by cases h
  | n + 1, d, p, h => by
    have ih := shaped_to (g := g) n
    unfold toPy at h
    cases d with
    | non => simp at h; subst h; simp [PyData.canLay0, PyData.depth]
    | bl b => simp at h; subst h; simp [PyData.canLay0, PyData.depth]
    | int b => simp at h; subst h; simp [PyData.canLay0, PyData.depth]
    | str b => simp at h; obtain ⟨h0, h⟩ := h; subst h; simp [PyData.canLay0, PyData.depth, h0]
    | tup ds =>
      simp only [Option.map_eq_some_iff] at h
      obtain ⟨ps, h3, rfl⟩ := h
      obtain ⟨a, b⟩ := shaped_alls ih ds ps h3
      simp only [PyData.canLay0, PyData.depth, a, true_and]
      omega
    | rol ds =>
      simp only [Option.map_eq_some_iff] at h
      obtain ⟨ps, h3, rfl⟩ := h
      obtain ⟨a, b⟩ := shaped_alls ih ds ps h3
      simp only [PyData.canLay0, PyData.depth, a, true_and]
      omega
    | scr ds => cases h
    | ref i =>
      simp only at h
      split at h
      · simp only [Option.map_eq_some_iff] at h
        obtain ⟨ps, h3, rfl⟩ := h
        obtain ⟨a, b⟩ := shaped_alls ih _ ps h3
        simp only [PyData.canLay0, PyData.depth, a, true_and]
        omega
      · cases h
theorem shaped_py {g : GH} {n : Nat} {d : D} {p : PyData} (hn : n ≤ 64) (h : toPy g n d = some p) : SeqAt.shaped p = true := by
  obtain ⟨a, b⟩ := shaped_to n d p h
  unfold SeqAt.shaped
  rw [a, Bool.true_and]
  exact decide_eq_true (Nat.le_trans b hn)
end

/-! ### operators -/
def opAdd : F2 := fun d e g => match d, e with
  | .int i, .int j => some (.int (i + j), g)
  | .str a, .str b => if a.length + b.length ≤ 16777216 then some (.str (a ++ b), g) else none
  | .tup a, .tup b => if a.length + b.length ≤ 16777216 then some (.tup (a ++ b), g) else none
  | .ref i, .ref j => match g[i]?, g[j]? with
    | some (.lst a), some (.lst b) => if a.length + b.length ≤ 16777216 then some (.ref g.length, g ++ [.lst (a ++ b)]) else none
    | _, _ => none
  | _, _ => none
def opSub : F2 := fun d e g => match d, e with
  | .int i, .int j => some (.int (i - j), g)
  | _, _ => none
def opMul : F2 := fun d e g => match d, e with
  | .int i, .int j => if i.natAbs.log2 + j.natAbs.log2 < 1000000 then some (.int (i * j), g) else none
  | .tup a, .int k => if a.length ≠ 0 ∧ 2 ≤ k ∧ k ≤ 1000 ∧ a.length ≤ 1000 then some (.tup (List.replicate k.toNat a).flatten, g) else none
  | .ref i, .int k => match g[i]? with
    | some (.lst a) => if 0 ≤ k ∧ k ≤ 1000000 ∧ a.length * k.toNat ≤ 16777216 then some (.ref g.length, g ++ [.lst (List.replicate k.toNat a).flatten]) else none
    | _ => none
  | _, _ => none
def opDiv : F2 := fun d e g => match d, e with
  | .int i, .int j => if 0 < j ∧ j.natAbs.log2 < 9000 then some (.int (i / j), g) else none
  | _, _ => none
def opMod : F2 := fun d e g => match d, e with
  | .int i, .int j => if 0 < j then some (.int (i % j), g) else none
  | _, _ => none
def opPow : F2 := fun d e g => match d, e with
  | .int i, .int j => if 0 ≤ j ∧ j ≤ 1000000 ∧ i.natAbs < 18446744073709551616 then some (.int (i ^ j.toNat), g) else none
  | _, _ => none
def opNeg : F1 := fun d g => match d with
  | .int i => some (.int (-i), g)
  | _ => none
def opEq : F2 := fun d e g => match toPy g 16 d, toPy g 16 e with
  | some p, some q => some (.bl (PyData.eqv p q), g)
  | _, _ => none
def opNe : F2 := fun d e g => match toPy g 16 d, toPy g 16 e with
  | some p, some q => some (.bl (!PyData.eqv p q), g)
  | _, _ => none
def opLt : F2 := fun d e g => match d, e with
  | .int i, .int j => some (.bl (decide (i < j)), g)
  | .tup a, .tup b => match toPy g 16 (.tup a), toPy g 16 (.tup b) with
    | some p, some q => if PySem.W.alike p q then some (.bl (PySem.W.dataLt p q), g) else none
    | _, _ => none
  | _, _ => none
def opLe : F2 := fun d e g => match d, e with
  | .int i, .int j => some (.bl (decide (i ≤ j)), g)
  | _, _ => none
def opGt : F2 := fun d e g => match d, e with
  | .int i, .int j => some (.bl (decide (j < i)), g)
  | _, _ => none
def opGe : F2 := fun d e g => match d, e with
  | .int i, .int j => some (.bl (decide (j ≤ i)), g)
  | _, _ => none
def opIs : F2 := fun d e g => match d, e with
  | .bl a, .bl b => some (.bl (decide (a = b)), g)
  | .non, .non => some (.bl true, g)
  | _, .non => some (.bl false, g)
  | _, _ => none
def opIsNot : F2 := fun d e g => match d, e with
  | .bl a, .bl b => some (.bl (!decide (a = b)), g)
  | .non, .non => some (.bl false, g)
  | _, .non => some (.bl true, g)
  | _, _ => none
def itemsOf (g : GH) (e : D) : Option (List PyData) := match toPy g 17 e with
  | some (.list qs) => some qs
  | some (.tuple qs) => some qs
  | _ => none
def opIn : F2 := fun d e g => match toPy g 16 d, itemsOf g e with
  | some p, some qs => some (.bl (qs.any fun z => PyData.eqv z p), g)
  | _, _ => none
def opNotIn : F2 := fun d e g => match toPy g 16 d, itemsOf g e with
  | some p, some qs => some (.bl (!qs.any fun z => PyData.eqv z p), g)
  | _, _ => none

section
variable {X : Cx} {Z : Row}
theorem D.str_inv {K : KW} {m : List Addr} {H : Hp} {i : Str} {v : V} (h : DRep K m H (.str i) v) : v = .str i := by simpa [DRep] using h
theorem D.int_inv {K : KW} {m : List Addr} {H : Hp} {i : Int} {v : V} (h : DRep K m H (.int i) v) : v = .int i := by simpa [DRep] using h
theorem D.bl_inv {K : KW} {m : List Addr} {H : Hp} {i : Bool} {v : V} (h : DRep K m H (.bl i) v) : v = .bl i := by simpa [DRep] using h
theorem D.non_inv {K : KW} {m : List Addr} {H : Hp} {v : V} (h : DRep K m H .non v) : v = .non := by simpa [DRep] using h
theorem D.mk_int {K : KW} {m : List Addr} {H : Hp} {i : Int} : DRep K m H (.int i) (.int i) := by simp [DRep]
theorem D.mk_str {K : KW} {m : List Addr} {H : Hp} {i : Str} : DRep K m H (.str i) (.str i) := by simp [DRep]
theorem D.mk_bl {K : KW} {m : List Addr} {H : Hp} {i : Bool} : DRep K m H (.bl i) (.bl i) := by simp [DRep]
theorem D.mk_non {K : KW} {m : List Addr} {H : Hp} : DRep K m H .non .non := by simp [DRep]
theorem tup_new {m : List Addr} {g : GH} {H : Hp} {ds : List D} {vs : List V} {p : Addr} {K : KW} {T : List (Addr × Str)} (s : S K T m g H) (r : DReps K m H ds vs) (hp : H p = none) :
    Ext m H m (upd H p (.tup vs)) ∧ S K T m g (upd H p (.tup vs)) ∧ DRep K m (upd H p (.tup vs)) (.tup ds) (.ref p) := by
  obtain ⟨e, s2⟩ := s.laid (u := .tup vs) hp
  refine ⟨e, s2, ?_⟩
  rw [DRep]
  exact ⟨p, vs, rfl, SqT.of upd_same, DReps.mono e _ _ r⟩
theorem DReps.nil_iff {K : KW} {m : List Addr} {H : Hp} {ds : List D} {vs : List V} (h : DReps K m H ds vs) : vs = [] ↔ ds = [] := by
  have := h.length
  constructor
  · intro e; subst e; simpa using this
  · intro e; subst e; simpa using this.symm
theorem DReps.flat {K : KW} {m : List Addr} {H : Hp} {ds : List D} {vs : List V} (h : DReps K m H ds vs) : ∀ n : Nat, DReps K m H (List.replicate n ds).flatten (List.replicate n vs).flatten
  | 0 => by simp [DReps]
  | n + 1 => by
    rw [List.replicate_succ, List.replicate_succ, List.flatten_cons, List.flatten_cons]
    exact h.append (h.flat n)
theorem o_add (hK : Z.K = X.kw) : OpR X (binaryOp .Add) (r2 Z opAdd) := by
  obtain ⟨K, T, ec⟩ := Z
  obtain rfl : K = X.kw := hK
  intro pins st σ H x y v u Q I rx ry ⟨m, g, d, e, s, hd, he, h⟩
  unfold opAdd at h
  split at h
  · cases D.int_inv hd; cases D.int_inv he
    exact op_add pins st σ H _ _ v u Q I rx ry ⟨_, _, rfl, rfl, h.here s D.mk_int⟩
  · cases D.str_inv hd; cases D.str_inv he
    split at h
    · rename_i hl
      exact op_add_str pins st σ H _ _ v u Q I rx ry ⟨_, _, rfl, rfl, by rw [sizeLine_eq]; exact hl, h.here s D.mk_str⟩
    · exact h.elim
  · split at h
    · rename_i a b hl
      rw [DRep] at hd he
      obtain ⟨p, xs, rfl, h1, h2⟩ := hd
      obtain ⟨q, ys, rfl, h3, h4⟩ := he
      refine op_catA pins st σ H _ _ v u Q I rx ry ⟨p, q, xs, ys, rfl, rfl, h1, h3, by rw [← h2.length, ← h4.length, sizeLine_eq]; exact hl, fun e => ?_, fun _ e => ?_, fun _ _ p hp => ?_⟩
      · have := h2.nil_iff.mp e
        subst this
        exact Post.here (d := D.tup b) h s (by show DRep _ _ _ (.tup b) _; rw [DRep]; exact ⟨q, ys, rfl, h3, h4⟩)
      · have := h4.nil_iff.mp e
        subst this
        exact Post.here (d := D.tup (a ++ [])) h s (by show DRep _ _ _ (.tup (a ++ [])) _; rw [List.append_nil, DRep]; exact ⟨_, xs, rfl, h1, h2⟩)
      · obtain ⟨e1, s1, r1⟩ := tup_new s (h2.append h4) hp
        exact h m _ (.ref p) e1 s1 r1
    · exact h.elim
  · rw [DRep] at hd he
    obtain ⟨p, rfl, h1⟩ := hd
    obtain ⟨q, rfl, h3⟩ := he
    split at h
    · rename_i a b e1 e2
      split at h
      · rename_i hl
        obtain ⟨o, h4, h5⟩ := s.at h1
        rw [e1] at h4; cases h4
        obtain ⟨o, h6, h7⟩ := s.at h3
        rw [e2] at h6; cases h6
        obtain ⟨xs, h8, h9⟩ := h5
        obtain ⟨ys, h10, h11⟩ := h7
        refine op_cat pins st σ H _ _ v u Q I rx ry ⟨p, q, xs, ys, rfl, rfl, h8, h10, by rw [← h9.length, ← h11.length, sizeLine_eq]; exact hl, fun p hp => ?_⟩
        obtain ⟨e1, s1, r1⟩ := lst_new s (h9.append h11) hp
        exact h _ _ (.ref p) e1 s1 r1
      · exact h.elim
    · exact h.elim
  · exact h.elim
theorem o_sub : OpR X (binaryOp .Sub) (r2 Z opSub) := by
  intro pins st σ H x y v u Q I rx ry ⟨m, g, d, e, s, hd, he, h⟩
  unfold opSub at h
  split at h
  · cases D.int_inv hd; cases D.int_inv he
    exact op_sub pins st σ H _ _ v u Q I rx ry ⟨_, _, rfl, rfl, h.here s D.mk_int⟩
  · exact h.elim
theorem o_mul (hK : Z.K = X.kw) : OpR X (binaryOp .Mult) (r2 Z opMul) := by
  obtain ⟨K, T, ec⟩ := Z
  obtain rfl : K = X.kw := hK
  intro pins st σ H x y v u Q I rx ry ⟨m, g, d, e, s, hd, he, h⟩
  unfold opMul at h
  split at h
  · cases D.int_inv hd; cases D.int_inv he
    split at h
    · rename_i hl
      exact op_mulW pins st σ H _ _ v u Q I rx ry ⟨_, _, rfl, rfl, hl, h.here s D.mk_int⟩
    · exact h.elim
  · cases D.int_inv he
    split at h
    · rename_i hl
      obtain ⟨l1, l2, l3, l4⟩ := hl
      rw [DRep] at hd
      obtain ⟨p, xs, rfl, h1, h2⟩ := hd
      refine op_repT pins st σ H _ _ v u Q I rx ry ⟨p, _, xs, rfl, rfl, h1, fun z => l1 (by have := h2.nil_iff.mp z; subst this; rfl), l2, l3, by rw [← h2.length]; exact l4, fun p hp => ?_⟩
      obtain ⟨e1, s1, r1⟩ := tup_new s (h2.flat _) hp
      exact h m _ (.ref p) e1 s1 r1
    · exact h.elim
  · cases D.int_inv he
    rw [DRep] at hd
    obtain ⟨p, rfl, h1⟩ := hd
    split at h
    · rename_i a e1
      split at h
      · rename_i hl
        obtain ⟨l1, l2, l3⟩ := hl
        obtain ⟨o, h4, h5⟩ := s.at h1
        rw [e1] at h4; cases h4
        obtain ⟨xs, h8, h9⟩ := h5
        refine op_rep pins st σ H _ _ v u Q I rx ry ⟨p, _, xs, rfl, rfl, h8, by omega, by omega, by rw [← h9.length, sizeLine_eq]; exact l3, fun p hp => ?_⟩
        obtain ⟨e1, s1, r1⟩ := lst_new s (h9.flat _) hp
        exact h _ _ (.ref p) e1 s1 r1
      · exact h.elim
    · exact h.elim
  · exact h.elim
theorem o_div : OpR X (binaryOp .FloorDiv) (r2 Z opDiv) := by
  intro pins st σ H x y v u Q I rx ry ⟨m, g, d, e, s, hd, he, h⟩
  unfold opDiv at h
  split at h
  · cases D.int_inv hd; cases D.int_inv he
    split at h
    · rename_i hl
      exact op_fdivW pins st σ H _ _ v u Q I rx ry ⟨_, _, rfl, rfl, hl, h.here s D.mk_int⟩
    · exact h.elim
  · exact h.elim
theorem o_mod : OpR X (binaryOp .Mod) (r2 Z opMod) := by
  intro pins st σ H x y v u Q I rx ry ⟨m, g, d, e, s, hd, he, h⟩
  unfold opMod at h
  split at h
  · cases D.int_inv hd; cases D.int_inv he
    split at h
    · rename_i hl
      exact op_mod pins st σ H _ _ v u Q I rx ry ⟨_, _, rfl, rfl, hl, h.here s D.mk_int⟩
    · exact h.elim
  · exact h.elim
theorem o_pow : OpR X (binaryOp .Pow) (r2 Z opPow) := by
  intro pins st σ H x y v u Q I rx ry ⟨m, g, d, e, s, hd, he, h⟩
  unfold opPow at h
  split at h
  · cases D.int_inv hd; cases D.int_inv he
    split at h
    · rename_i hl
      exact op_pow pins st σ H _ _ v u Q I rx ry ⟨_, _, rfl, rfl, ⟨hl.1, hl.2.1, hl.2.2⟩, h.here s D.mk_int⟩
    · exact h.elim
  · exact h.elim
theorem o_neg : UnR X (unaryOp .USub) (r1 Z opNeg) := by
  intro pins st σ H x v Q I rx ⟨m, g, d, s, hd, h⟩
  unfold opNeg at h
  split at h
  · cases D.int_inv hd
    exact un_neg pins st σ H _ v Q I rx ⟨_, rfl, h.here s D.mk_int⟩
  · exact h.elim
theorem o_eq (hK : Z.K = X.kw) (hu : X.A.units + 64 < cLine) : OpR X (compareOp .Eq) (r2 Z opEq) := by
  obtain ⟨K, T, ec⟩ := Z
  obtain rfl : K = X.kw := hK
  intro pins st σ H x y v u Q I rx ry ⟨m, g, d, e, s, hd, he, h⟩
  unfold opEq at h
  split at h
  · rename_i p q e1 e2
    exact op_eqD hu pins st σ H _ _ v u Q I rx ry ⟨p, q, dp_of s 16 d x p hd e1, dp_of s 16 e y q he e2, shaped_py (by decide) e1, shaped_py (by decide) e2, h.here s D.mk_bl⟩
  · exact h.elim
theorem o_ne (hK : Z.K = X.kw) (hu : X.A.units + 64 < cLine) : OpR X (compareOp .NotEq) (r2 Z opNe) := by
  obtain ⟨K, T, ec⟩ := Z
  obtain rfl : K = X.kw := hK
  intro pins st σ H x y v u Q I rx ry ⟨m, g, d, e, s, hd, he, h⟩
  unfold opNe at h
  split at h
  · rename_i p q e1 e2
    exact op_neD hu pins st σ H _ _ v u Q I rx ry ⟨p, q, dp_of s 16 d x p hd e1, dp_of s 16 e y q he e2, shaped_py (by decide) e1, shaped_py (by decide) e2, h.here s D.mk_bl⟩
  · exact h.elim
theorem o_lt (hK : Z.K = X.kw) (hu : X.A.units + 64 < cLine) : OpR X (compareOp .Lt) (r2 Z opLt) := by
  obtain ⟨K, T, ec⟩ := Z
  obtain rfl : K = X.kw := hK
  intro pins st σ H x y v u Q I rx ry ⟨m, g, d, e, s, hd, he, h⟩
  unfold opLt at h
  split at h
  · cases D.int_inv hd; cases D.int_inv he
    exact op_lt pins st σ H _ _ v u Q I rx ry ⟨_, _, rfl, rfl, h.here s D.mk_bl⟩
  · rename_i a b
    split at h
    · rename_i p q e1 e2
      split at h
      · rename_i hl
        obtain ⟨as, r1⟩ := Dp.reads I p x v (dp_of s 16 _ x p hd e1) rx
        obtain ⟨bs, r2⟩ := Dp.reads I q y u (dp_of s 16 _ y q he e2) ry
        have hne : p ≠ .none := fun z => by
          subst z
          unfold toPy at e1
          simp at e1
        have hz := shaped_to 16 _ p e1
        refine PySem.W.rcLt_alike p q X.A st v u as bs r1 r2 hl hne (by
          have h1 : min p.depth q.depth ≤ p.depth := Nat.min_le_left _ _
          have h2 := hz.2
          omega) X.prog X.w _ _ ⟨.bl _, H, I, rfl, h.here s D.mk_bl⟩
      · exact h.elim
    · exact h.elim
  · exact h.elim
theorem o_le : OpR X (compareOp .LtE) (r2 Z opLe) := by
  intro pins st σ H x y v u Q I rx ry ⟨m, g, d, e, s, hd, he, h⟩
  unfold opLe at h
  split at h
  · cases D.int_inv hd; cases D.int_inv he
    exact op_le pins st σ H _ _ v u Q I rx ry ⟨_, _, rfl, rfl, h.here s D.mk_bl⟩
  · exact h.elim
theorem o_gt : OpR X (compareOp .Gt) (r2 Z opGt) := by
  intro pins st σ H x y v u Q I rx ry ⟨m, g, d, e, s, hd, he, h⟩
  unfold opGt at h
  split at h
  · cases D.int_inv hd; cases D.int_inv he
    exact op_gt pins st σ H _ _ v u Q I rx ry ⟨_, _, rfl, rfl, h.here s D.mk_bl⟩
  · exact h.elim
theorem o_ge : OpR X (compareOp .GtE) (r2 Z opGe) := by
  intro pins st σ H x y v u Q I rx ry ⟨m, g, d, e, s, hd, he, h⟩
  unfold opGe at h
  split at h
  · cases D.int_inv hd; cases D.int_inv he
    exact op_ge pins st σ H _ _ v u Q I rx ry ⟨_, _, rfl, rfl, h.here s D.mk_bl⟩
  · exact h.elim
theorem not_non {K : KW} {m : List Addr} {H : Hp} {d : D} {x : V} (hd : DRep K m H d x) (h : d ≠ .non) : x ≠ .non := by
  cases d with
  | non => exact absurd rfl h
  | bl b => cases D.bl_inv hd; simp
  | int b => cases D.int_inv hd; simp
  | str b => cases D.str_inv hd; simp
  | tup ds => rw [DRep] at hd; obtain ⟨_, _, rfl, _⟩ := hd; simp
  | rol ds => rw [DRep] at hd; obtain ⟨_, _, rfl, _⟩ := hd; simp
  | scr ds => rw [DRep] at hd; obtain ⟨_, _, rfl, _⟩ := hd; simp
  | ref i => rw [DRep] at hd; obtain ⟨_, rfl, _⟩ := hd; simp
theorem o_is : OpR X (compareOp .Is) (r2 Z opIs) := by
  intro pins st σ H x y v u Q I rx ry ⟨m, g, d, e, s, hd, he, h⟩
  unfold opIs at h
  split at h
  · cases D.bl_inv hd; cases D.bl_inv he
    exact op_isBl pins st σ H _ _ v u Q I rx ry ⟨_, _, rfl, rfl, h.here s D.mk_bl⟩
  · cases D.non_inv hd; cases D.non_inv he
    exact op_isN pins st σ H _ _ v u Q I rx ry ⟨rfl, h.here s D.mk_bl⟩
  · rename_i hn
    cases D.non_inv he
    refine op_isN pins st σ H _ _ v u Q I rx ry ⟨rfl, ?_⟩
    rw [decide_eq_false (not_non hd (fun z => hn z))]
    exact h.here s D.mk_bl
  · exact h.elim
theorem o_isNot : OpR X (compareOp .IsNot) (r2 Z opIsNot) := by
  intro pins st σ H x y v u Q I rx ry ⟨m, g, d, e, s, hd, he, h⟩
  unfold opIsNot at h
  split at h
  · cases D.bl_inv hd; cases D.bl_inv he
    exact op_notBl pins st σ H _ _ v u Q I rx ry ⟨_, _, rfl, rfl, h.here s D.mk_bl⟩
  · cases D.non_inv hd; cases D.non_inv he
    exact op_notN pins st σ H _ _ v u Q I rx ry ⟨rfl, h.here s D.mk_bl⟩
  · rename_i hn
    cases D.non_inv he
    refine op_notN pins st σ H _ _ v u Q I rx ry ⟨rfl, ?_⟩
    rw [decide_eq_false (not_non hd (fun z => hn z))]
    exact h.here s D.mk_bl
  · exact h.elim
theorem items_cases {g : GH} {e : D} {qs : List PyData} (h : itemsOf g e = some qs) : toPy g 17 e = some (.list qs) ∨ toPy g 17 e = some (.tuple qs) := by
  unfold itemsOf at h
  split at h <;> first | (cases h; first | exact .inl (by assumption) | exact .inr (by assumption)) | cases h
theorem o_in (hK : Z.K = X.kw) (hu : X.A.units + 65 < cLine) : OpR X (compareOp .In) (r2 Z opIn) := by
  obtain ⟨K, T, ec⟩ := Z
  obtain rfl : K = X.kw := hK
  intro pins st σ H x y v u Q I rx ry ⟨m, g, d, e, s, hd, he, h⟩
  unfold opIn at h
  split at h
  · rename_i p qs e1 e2
    have dx := dp_of s 16 d x p hd e1
    rcases items_cases e2 with e2 | e2
    · exact op_inD hu pins st σ H _ _ v u Q I rx ry ⟨p, qs, dx, dp_of s 17 e y _ he e2, shaped_py (by decide) e1, shaped_py (by decide) e2, h.here s D.mk_bl⟩
    · obtain ⟨as, r1⟩ := Dp.reads I p x v dx rx
      obtain ⟨bs, r2⟩ := Dp.reads I _ y u (dp_of s 17 e y _ he e2) ry
      exact SeqAt.in_tuple_reads r2 r1 (SeqAt.canLay_of_shaped (shaped_py (by decide) e2)) (SeqAt.canLay_of_shaped (shaped_py (by decide) e1)) (room_in_shaped (shaped_py (by decide) e1) hu) ⟨.bl _, H, I, rfl, h.here s D.mk_bl⟩
  · exact h.elim
theorem o_notIn (hK : Z.K = X.kw) (hu : X.A.units + 65 < cLine) : OpR X (compareOp .NotIn) (r2 Z opNotIn) := by
  obtain ⟨K, T, ec⟩ := Z
  obtain rfl : K = X.kw := hK
  intro pins st σ H x y v u Q I rx ry ⟨m, g, d, e, s, hd, he, h⟩
  unfold opNotIn at h
  split at h
  · rename_i p qs e1 e2
    have dx := dp_of s 16 d x p hd e1
    rcases items_cases e2 with e2 | e2
    · exact op_notInD hu pins st σ H _ _ v u Q I rx ry ⟨p, qs, dx, dp_of s 17 e y _ he e2, shaped_py (by decide) e1, shaped_py (by decide) e2, h.here s D.mk_bl⟩
    · obtain ⟨as, r1⟩ := Dp.reads I p x v dx rx
      obtain ⟨bs, r2⟩ := Dp.reads I _ y u (dp_of s 17 e y _ he e2) ry
      exact SeqAt.notIn_tuple_reads r2 r1 (SeqAt.canLay_of_shaped (shaped_py (by decide) e2)) (SeqAt.canLay_of_shaped (shaped_py (by decide) e1)) (room_in_shaped (shaped_py (by decide) e1) hu) ⟨.bl _, H, I, rfl, h.here s D.mk_bl⟩
  · exact h.elim
end
end L3

/-! L3d: subscripts, slices, built-ins. -/
namespace L3
open PySem PySem.Spec PyProof.Rows L2

def cutD (xs : List D) (lo hi : Option Int) : List D := (xs.drop (HT.sIx xs.length 0 lo)).take (HT.sIx xs.length xs.length hi - HT.sIx xs.length 0 lo)
def opIx : F2 := fun d e g => match d, e with
  | .tup ds, .int i => (atI ds i).map fun x => (x, g)
  | .rol ds, .int i => (atI ds i).map fun x => (x, g)
  | .scr ds, .int i => (atI ds i).map fun x => (x, g)
  | .ref k, .int i => match g[k]? with
    | some (.lst ds) => (atI ds i).map fun x => (x, g)
    | _ => none
  | .str z, .int i => if z.length ≤ 16777216 then (atI z.cps.toList i).map fun c => (.str ⟨#[c]⟩, g) else none
  | _, _ => none
abbrev OV := Rho → GH → Res (Option Int)
def oNone : OV := fun _ g => .ok none g
def oSome (a : EV) : OV := fun ρ g => (a ρ g).bind fun d g1 => match d with
  | .int i => .ok (some i) g1
  | _ => .bad
def opSl (d : D) (lo hi : Option Int) (g : GH) : Option (D × GH) := match d with
  | .tup ds => some (.tup (cutD ds lo hi), g)
  | .ref k => match g[k]? with
    | some (.lst ds) => some (.ref g.length, g ++ [.lst (cutD ds lo hi)])
    | _ => none
  | .str z => if z.length ≤ 16777216 then some (.str (cutS z lo hi), g) else none
  | _ => none
def eSl (a : EV) (lo hi : OV) : EV := fun ρ g => (a ρ g).bind fun d g1 => (lo ρ g1).bind fun l g2 => (hi ρ g2).bind fun h g3 => liftO (opSl d l h g3)
inductive BT where
  | tint | tbool | ttuple | tlist | tstr
def BT.name : BT → String
  | .tint => "int" | .tbool => "bool" | .ttuple => "tuple" | .tlist => "list" | .tstr => "str"
def isB (t : BT) (d : D) (g : GH) : Option Bool := match d with
  | .non => some false
  | .bl _ => some (match t with | .tint => true | .tbool => true | _ => false)
  | .int _ => some (match t with | .tint => true | _ => false)
  | .str _ => some (match t with | .tstr => true | _ => false)
  | .tup _ => some (match t with | .ttuple => true | _ => false)
  | .rol _ => some (match t with | .tlist => true | _ => false)
  | .scr _ => none
  | .ref i => match g[i]? with
    | some (.lst _) => some (match t with | .tlist => true | _ => false)
    | _ => none
def eIsB (t : BT) (a : EV) : EV := fun ρ g => (a ρ g).bind fun d g1 => match isB t d g1 with
  | some b => .ok (.bl b) g1
  | none => .bad
def intsOf : List D → Option (List Int)
  | [] => some []
  | .int i :: ds => (intsOf ds).map fun is => i :: is
  | _ :: _ => none
def blsOf : List D → Option (List Bool)
  | [] => some []
  | .bl i :: ds => (blsOf ds).map fun is => i :: is
  | _ :: _ => none
def minI : List Int → Int
  | [] => 0
  | i :: is => is.foldl (fun a b => if b < a then b else a) i
def maxI : List Int → Int
  | [] => 0
  | i :: is => is.foldl (fun a b => if a < b then b else a) i
/-- the items of a list that is read -/
def lstOf (g : GH) : D → Option (List D)
  | .rol ds => some ds
  | .scr ds => some ds
  | .ref i => match g[i]? with
    | some (.lst ds) => some ds
    | _ => none
  | _ => none
def fLen : FN := fun xs g => match xs with
  | [.tup ds] => some (.int ds.length, g)
  | [.str z] => if z.length ≤ 16777216 then some (.int z.length, g) else none
  | [d] => (lstOf g d).map fun ds => (.int ds.length, g)
  | _ => none
def fAbs : FN := fun xs g => match xs with
  | [.int i] => some (.int (if i < 0 then -i else i), g)
  | _ => none
def fMin : FN := fun xs g => match xs with
  | [.int i, .int j] => some (.int (if j < i then j else i), g)
  | [d] => match (lstOf g d).bind intsOf with
    | some (i :: is) => some (.int (minI (i :: is)), g)
    | _ => none
  | _ => none
def fMax : FN := fun xs g => match xs with
  | [.int i, .int j] => some (.int (if j > i then j else i), g)
  | [d] => match (lstOf g d).bind intsOf with
    | some (i :: is) => some (.int (maxI (i :: is)), g)
    | _ => none
  | _ => none
def fSum : FN := fun xs g => match xs with
  | [d] => match (lstOf g d).bind intsOf with
    | some is => some (.int is.sum, g)
    | none => none
  | _ => none
def fInt : FN := fun xs g => match xs with
  | [.int i] => some (.int i, g)
  | [.bl b] => some (.int (if b then 1 else 0), g)
  | [.str a] => if a.length ≤ 640 then (PySem.intText? a).map fun n => (.int n, g) else none
  | _ => none
def fBool : FN := fun xs g => match xs with
  | [.int i] => some (.bl (i != 0), g)
  | [.bl b] => some (.bl b, g)
  | _ => none
def fStr : FN := fun xs g => match xs with
  | [.int i] => if i.natAbs.log2 < 1920 then some (.str (toString i), g) else none
  | _ => none
def fList : FN := fun xs g => match xs with
  | [.tup ds] => some (.ref g.length, g ++ [.lst ds])
  | [d] => (lstOf g d).map fun ds => (.ref g.length, g ++ [.lst ds])
  | _ => none
def fTuple : FN := fun xs g => match xs with
  | [.tup ds] => some (.tup ds, g)
  | [d] => (lstOf g d).map fun ds => (.tup ds, g)
  | _ => none
def eApp (o a : EV) : EV := fun ρ g => (o ρ g).bind fun d g1 => match lstOf g1 d with
  | some _ => (a ρ g1).bind fun e g2 => match d with
    | .ref i => match g2[i]? with
      | some (.lst ds) => if ds.length < 16777216 then .ok .non (g2.set i (.lst (ds ++ [e]))) else .bad
      | _ => .bad
    | _ => .bad
  | none => .bad
/-- list(range(n)), list(range(a, b)) -/
def rangeD (a b : Int) : List D := (List.range (b - a).toNat).map fun (k : Nat) => .int (a + (k : Int))
def eLstRg1 (a : EV) : EV := fun ρ g => (a ρ g).bind fun d g1 => match d with
  | .int n => if n ≤ 1000000 ∧ -1000000 ≤ n then .ok (.ref g1.length) (g1 ++ [.lst (rangeD 0 n)]) else .bad
  | _ => .bad

section
variable {X : Cx} {Z : Row} {W : WX} {pos : Pos} {a b c : Expr} {ea eb ecc : EV} {es : List Expr} {as : AV}
theorem cut_reps {K : KW} {m : List Addr} {H : Hp} {ds : List D} {vs : List V} (h : DReps K m H ds vs) (lo hi : Option Int) : DReps K m H (cutD ds lo hi) (cutV vs lo hi) := by
  unfold cutD cutV
  rw [h.length]
  exact (h.drop _).take _
theorem atI_reps {K : KW} {m : List Addr} {H : Hp} {ds : List D} {vs : List V} {i : Int} {d : D} (h : DReps K m H ds vs) (e : atI ds i = some d) : ∃ v, atI vs i = some v ∧ DRep K m H d v := by
  unfold atI at e ⊢
  rw [← h.length]
  cases q : ixN ds.length i with
  | none => rw [q] at e; cases e
  | some j =>
    rw [q] at e
    exact h.get e
theorem lst_at {K : KW} {T : List (Addr × Str)} {m : List Addr} {g : GH} {H : Hp} {i : Nat} {ds : List D} {v : V} (s : S K T m g H) (h : DRep K m H (.ref i) v) (e : g[i]? = some (.lst ds)) :
    ∃ p xs, v = .ref p ∧ m[i]? = some p ∧ H p = some (.lst xs) ∧ DReps K m H ds xs := by
  rw [DRep] at h
  obtain ⟨p, rfl, h1⟩ := h
  obtain ⟨o, h2, h3⟩ := s.at h1
  rw [e] at h2; cases h2
  obtain ⟨xs, h4, h5⟩ := h3
  exact ⟨p, xs, rfl, h1, h4, h5⟩
theorem lstOf_at {K : KW} {T : List (Addr × Str)} {m : List Addr} {g : GH} {H : Hp} {d : D} {ds : List D} {v : V} (s : S K T m g H) (h : DRep K m H d v) (e : lstOf g d = some ds) :
    ∃ p xs, v = .ref p ∧ SqL K.K H p xs ∧ DReps K m H ds xs := by
  unfold lstOf at e
  cases d with
  | rol es =>
    simp at e
    subst e
    rw [DRep] at h
    obtain ⟨p, xs, rfl, h1, h2⟩ := h
    exact ⟨p, xs, rfl, h1.sql, h2⟩
  | scr es =>
    simp at e
    subst e
    rw [DRep] at h
    obtain ⟨p, xs, rfl, h1, h2⟩ := h
    exact ⟨p, xs, rfl, h1.sql, h2⟩
  | ref i =>
    simp only at e
    split at e
    · rename_i es e1
      cases e
      obtain ⟨p, xs, rfl, _, h2, h3⟩ := lst_at s h e1
      exact ⟨p, xs, rfl, SqL.of h2, h3⟩
    · cases e
  | _ => cases e
theorem ix_tup_l {K : KW} {m : List Addr} {H : Hp} {ds : List D} {v : V} (h : DRep K m H (.tup ds) v) : ∃ p xs, v = .ref p ∧ SqT K.K H p xs ∧ DReps K m H ds xs := by
  rw [DRep] at h
  exact h
theorem o_ix (hK : Z.K = X.kw) : IxR X (r2 Z opIx) := by
  obtain ⟨K, T, ec⟩ := Z
  obtain rfl : K = X.kw := hK
  intro value slice pins st σ H x y v u Q I rx ry ⟨m, g, d, e, s, hd, he, h⟩ hs
  unfold opIx at h
  split at h
  · cases D.int_inv he
    obtain ⟨p, xs, rfl, h1, h2⟩ := ix_tup_l hd
    cases q : atI _ _ with
    | none => rw [q] at h; exact h.elim
    | some z =>
      rw [q] at h
      obtain ⟨w, e1, e2⟩ := atI_reps h2 q
      exact ix_tup value slice pins st σ H _ _ v u Q I rx ry ⟨p, xs, _, w, rfl, rfl, h1, e1, Post.here (d := z) h s e2⟩ hs
  · cases D.int_inv he
    obtain ⟨p, xs, rfl, h1, h2⟩ := lstOf_at (g := g) s hd rfl
    cases q : atI _ _ with
    | none => rw [q] at h; exact h.elim
    | some z =>
      rw [q] at h
      obtain ⟨w, e1, e2⟩ := atI_reps h2 q
      exact ix_list value slice pins st σ H _ _ v u Q I rx ry ⟨p, xs, _, w, rfl, rfl, h1, e1, Post.here (d := z) h s e2⟩ hs
  · cases D.int_inv he
    obtain ⟨p, xs, rfl, h1, h2⟩ := lstOf_at (g := g) s hd rfl
    cases q : atI _ _ with
    | none => rw [q] at h; exact h.elim
    | some z =>
      rw [q] at h
      obtain ⟨w, e1, e2⟩ := atI_reps h2 q
      exact ix_list value slice pins st σ H _ _ v u Q I rx ry ⟨p, xs, _, w, rfl, rfl, h1, e1, Post.here (d := z) h s e2⟩ hs
  · cases D.int_inv he
    split at h
    · rename_i ds e1
      obtain ⟨p, xs, rfl, _, h1, h2⟩ := lst_at s hd e1
      cases q : atI _ _ with
      | none => rw [q] at h; exact h.elim
      | some z =>
        rw [q] at h
        obtain ⟨w, e1, e2⟩ := atI_reps h2 q
        exact ix_list value slice pins st σ H _ _ v u Q I rx ry ⟨p, xs, _, w, rfl, rfl, SqL.of h1, e1, Post.here (d := z) h s e2⟩ hs
    · exact h.elim
  · cases D.int_inv he; cases D.str_inv hd
    split at h
    · rename_i hl
      cases q : atI _ _ with
      | none => rw [q] at h; exact h.elim
      | some z =>
        rw [q] at h
        exact ix_str value slice pins st σ H _ _ v u Q I rx ry ⟨_, _, z, rfl, rfl, by rw [sizeLine_eq]; exact hl, q, Post.here (d := D.str ⟨#[z]⟩) h s D.mk_str⟩ hs
    · exact h.elim
  · exact h.elim
theorem pe3_ix {f : F2} (hr : IxR X (r2 Z f)) (ha : PE X a (tE Z ea W)) (hb : PE X b (tE Z eb W)) (hs : PlainIx b := by exact fun _ _ => rfl) : PE X (.Subscript a b pos) (tE Z (eBin f ea eb) W) :=
  (pe_ix hr ha hb hs).imp fun σ H Q ⟨m, g, ρ, s, r, h⟩ => two (f := fun d e g => liftO (f d e g)) s r h fun m2 H2 d e v u g2 _ s2 r1 r2 _ h2 => ⟨m2, g2, d, e, s2, r1, r2, h2.lift⟩
abbrev RO : List Addr → Hp → Option Int → Option Int → Prop := fun _ _ a b => a = b
def tO3 (Z : Row) (ov : OV) (W : WX) : L2.TO := fun σ H Q => ∃ m g ρ, S Z.K Z.T m g H ∧ RhoRep Z.K m H ρ σ ∧ Post Z.K Z.T RO (ov ρ g) m H Q (WofX Z W σ)
theorem PO.imp {e : Option Expr} {t t' : L2.TO} (h : L2.PO X e t) (k : ∀ σ H Q, t' σ H Q → t σ H Q) : L2.PO X e t' := ⟨fun pins s σ H Q I q => h.run pins s σ H Q I (k σ H Q q)⟩
theorem po3_none : L2.PO X none (tO3 Z oNone W) := PO.imp po_none fun σ H Q ⟨m, g, ρ, s, r, h⟩ => Post.here (d := (none : Option Int)) h s rfl
theorem po3_some {e : Expr} (he : PE X e (tE Z ea W)) : L2.PO X (some e) (tO3 Z (oSome ea) W) := PO.imp (po_some he) fun σ H Q ⟨m, g, ρ, s, r, h⟩ => ⟨m, g, ρ, s, r, Post.bind h fun m1 H1 d v g1 e1 s1 r1 h1 => by
  split at h1
  · cases D.int_inv r1
    exact ⟨_, rfl, Post.here (d := some _) h1 s1 rfl⟩
  · exact h1.elim⟩
def rSl3 (Z : Row) : V → Option Int → Option Int → Hp → VK → Prop := fun x lo hi H Q => ∃ m g d, S Z.K Z.T m g H ∧ DRep Z.K m H d x ∧ Post Z.K Z.T (RD Z) (liftO (opSl d lo hi g)) m H Q W0
theorem sl_3 (hK : Z.K = X.kw) : L2.SlR X (rSl3 Z) := by
  obtain ⟨K, T, ec⟩ := Z
  obtain rfl : K = X.kw := hK
  intro pins st σ H x v vl vu lo hi sl Q I rx hs pl pu ⟨m, g, d, s, hd, h⟩
  unfold opSl at h
  split at h
  · rename_i ds
    have hd0 := hd
    obtain ⟨p, xs, rfl, h1, h2⟩ := ix_tup_l hd
    refine sl_tupA pins st σ H _ v vl vu lo hi sl Q I rx hs pl pu ⟨p, xs, rfl, h1, fun hw => ?_, fun hw p hp => ?_⟩
    · have e : cutD ds lo hi = ds := by
        unfold cutD
        rw [h2.length, hw.1, hw.2, ← h2.length]
        simp
      rw [e] at h
      exact Post.here (d := D.tup ds) h s hd0
    · obtain ⟨e1, s1, r1⟩ := tup_new s (cut_reps h2 lo hi) hp
      exact h m _ (.ref p) e1 s1 r1
  · split at h
    · rename_i ds e1
      obtain ⟨p, xs, rfl, _, h1, h2⟩ := lst_at s hd e1
      refine sl_list pins st σ H _ v vl vu lo hi sl Q I rx hs pl pu ⟨p, xs, rfl, SqL.of h1, fun p hp => ?_⟩
      obtain ⟨e1, s1, r1⟩ := lst_new s (cut_reps h2 lo hi) hp
      exact h _ _ (.ref p) e1 s1 r1
    · exact h.elim
  · cases D.str_inv hd
    split at h
    · rename_i hl
      exact sl_str pins st σ H _ v vl vu lo hi sl Q I rx hs pl pu ⟨_, rfl, by rw [sizeLine_eq]; exact hl, h.here s D.mk_str⟩
    · exact h.elim
  · exact h.elim
theorem pe3_sl {lo hi : Option Expr} {p2 : Pos} {ol oh : OV} (hK : Z.K = X.kw) (ha : PE X a (tE Z ea W)) (hl : L2.PO X lo (tO3 Z ol W)) (hh : L2.PO X hi (tO3 Z oh W)) : PE X (.Subscript a (.Slice lo hi none p2) pos) (tE Z (eSl ea ol oh) W) :=
  (pe_slice (sl_3 hK) ha hl hh).imp fun σ H Q ⟨m, g, ρ, s, r, h⟩ => ⟨m, g, ρ, s, r, Post.bind h fun m1 H1 d v g1 e1 s1 r1 h1 =>
    ⟨m1, g1, ρ, s1, r.mono e1, Post.bind h1 fun m2 H2 l l' g2 e2 s2 r2 h2 => ⟨m2, g2, ρ, s2, (r.mono e1).mono e2, Post.bind h2 fun m3 H3 k k' g3 e3 s3 r3 h3 => by
      cases r2; cases r3
      exact ⟨m3, g3, d, s3, (r1.mono e2).mono e3, h3.lift⟩⟩⟩⟩
theorem kitBs : kitB "NoneType" "int" = some false ∧ kitB "NoneType" "bool" = some false ∧ kitB "NoneType" "tuple" = some false ∧ kitB "NoneType" "list" = some false ∧ kitB "NoneType" "str" = some false ∧
    kitB "bool" "int" = some true ∧ kitB "bool" "bool" = some true ∧ kitB "bool" "tuple" = some false ∧ kitB "bool" "list" = some false ∧ kitB "bool" "str" = some false ∧
    kitB "int" "int" = some true ∧ kitB "int" "bool" = some false ∧ kitB "int" "tuple" = some false ∧ kitB "int" "list" = some false ∧ kitB "int" "str" = some false ∧
    kitB "str" "int" = some false ∧ kitB "str" "bool" = some false ∧ kitB "str" "tuple" = some false ∧ kitB "str" "list" = some false ∧ kitB "str" "str" = some true ∧
    kitB "tuple" "int" = some false ∧ kitB "tuple" "bool" = some false ∧ kitB "tuple" "tuple" = some true ∧ kitB "tuple" "list" = some false ∧ kitB "tuple" "str" = some false ∧
    kitB "list" "int" = some false ∧ kitB "list" "bool" = some false ∧ kitB "list" "tuple" = some false ∧ kitB "list" "list" = some true ∧ kitB "list" "str" = some false := by
  decide +kernel
theorem isB_ok {K : KW} {T : List (Addr × Str)} {m : List Addr} {g : GH} {H : Hp} {t : BT} {d : D} {v : V} {r : Bool} (s : S K T m g H) (h : DRep K m H d v) (e : isB t d g = some r) :
    ∃ ty : String, TyX K.K H v (.type ty) ∧ PySem.W.kitOne K.K (.type ty) (.type t.name) = some r := by
  obtain ⟨k1, k2, k3, k4, k5, k6, k7, k8, k9, k10, k11, k12, k13, k14, k15, k16, k17, k18, k19, k20, k21, k22, k23, k24, k25, k26, k27, k28, k29, k30⟩ := kitBs
  unfold isB at e
  cases d with
  | non =>
    cases D.non_inv h; cases e
    refine ⟨_, .base .non, ?_⟩
    cases t <;> exact kit_ty (by assumption)
  | bl b =>
    cases D.bl_inv h; cases e
    refine ⟨_, .base (.bl b), ?_⟩
    cases t <;> exact kit_ty (by assumption)
  | int i =>
    cases D.int_inv h; cases e
    refine ⟨_, .base (.int i), ?_⟩
    cases t <;> exact kit_ty (by assumption)
  | str i =>
    cases D.str_inv h; cases e
    refine ⟨_, .base (.str i), ?_⟩
    cases t <;> exact kit_ty (by assumption)
  | tup ds =>
    cases e
    obtain ⟨p, xs, rfl, h1, h2⟩ := ix_tup_l h
    refine ⟨"tuple", ?_, ?_⟩
    · rcases h1 with (h1 | ⟨o, h1⟩) | ⟨o, its, n, h1, h2, _⟩
      · exact .base (.tup h1)
      · exact .fTuple h1
      · exact .kTuple h1 h2
    · cases t <;> exact kit_ty (by assumption)
  | rol ds =>
    cases e
    rw [DRep] at h
    obtain ⟨p, xs, rfl, h1, h2⟩ := h
    refine ⟨"list", ?_, ?_⟩
    · obtain ⟨o, h1⟩ := h1
      exact .base (.frz h1)
    · cases t <;> exact kit_ty (by assumption)
  | scr ds => cases e
  | ref i =>
    simp only at e
    split at e
    · rename_i ds e1
      cases e
      obtain ⟨p, xs, rfl, _, h1, h2⟩ := lst_at s h e1
      refine ⟨"list", .base (.lst h1), ?_⟩
      cases t <;> exact kit_ty (by assumption)
    · cases e
theorem pe3_isB (t : BT) {x : Str} {p p2 : Pos} (hK : Z.K = X.kw) (hg : Gl X "isinstance") (hm : X.mg "isinstance" = none) (hg2 : Gl X x) (hm2 : X.mg x = none) (hx : bootBuiltins x = some (.type t.name)) (ha : PE X a (tE Z ea W))
    (hv : bootBuiltins "isinstance" = some (.builtin "isinstance") := by exact boot_isinstance) (hn : x ≠ "__name__" := by decide) (hdb : (x == ("__debug__" : Str)) = false := by decide)
    (he : starEach [a, .Name x p2] X.env = (false, eval a X.env) :: starEach [.Name x p2] X.env := by rfl) (he2 : starEach [.Name x p2] X.env = (false, eval (.Name x p2) X.env) :: starEach [] X.env := by rfl)
    (hpl : (backTo pos (starEach [.Name x p2] X.env)).any (·.1) = false := by rfl) : PE X (.Call (.Name "isinstance" p) [a, .Name x p2] [] pos) (tE Z (eIsB t ea) W) := by
  obtain ⟨K, T, ec⟩ := Z
  obtain rfl : K = X.kw := hK
  refine (pe_callB call_isi hg hm hv (pa_cons ha (pa_cons (pe_bltn (v := .ty t.name) hg2 hm2 hx rfl hn hdb) pa_nil he2) he) (by decide) (by decide) he hpl).imp fun σ H Q ⟨m, g, ρ, s, r, h⟩ => ⟨m, g, ρ, s, r, Post.bind h fun m1 H1 d v g1 e1 s1 r1 h1 => ?_⟩
  split at h1
  · rename_i k e
    obtain ⟨ty, h2, h3⟩ := isB_ok s1 r1 e
    exact ⟨v, .ty t.name, _, _, k, rfl, .ty _, h2, h3, Post.here (d := D.bl k) h1 s1 D.mk_bl⟩
  · exact h1.elim

/-! built-ins -/
theorem reps1 {K : KW} {m : List Addr} {H : Hp} {d : D} {xs : List V} (h : DReps K m H [d] xs) : ∃ v, xs = [v] ∧ DRep K m H d v := by
  rw [DReps] at h
  obtain ⟨v, vs, rfl, h1, h2⟩ := h
  rw [DReps] at h2
  subst h2
  exact ⟨v, rfl, h1⟩
theorem reps2 {K : KW} {m : List Addr} {H : Hp} {d e : D} {xs : List V} (h : DReps K m H [d, e] xs) : ∃ v u, xs = [v, u] ∧ DRep K m H d v ∧ DRep K m H e u := by
  rw [DReps] at h
  obtain ⟨v, vs, rfl, h1, h2⟩ := h
  obtain ⟨u, rfl, h3⟩ := reps1 h2
  exact ⟨v, u, rfl, h1, h3⟩
theorem ints_reps {K : KW} {m : List Addr} {H : Hp} : ∀ {ds : List D} {vs : List V} {is : List Int}, DReps K m H ds vs → intsOf ds = some is → vs = is.map V.int
  | [], _, is, h, e => by rw [DReps] at h; subst h; cases e; rfl
  | d :: ds, _, is, h, e => by
    rw [DReps] at h
    obtain ⟨v, vs, rfl, h1, h2⟩ := h
    cases d with
    | int i =>
      unfold intsOf at e
      simp only [Option.map_eq_some_iff] at e
      obtain ⟨js, e1, rfl⟩ := e
      cases D.int_inv h1
      rw [ints_reps h2 e1]
      rfl
    | _ => cases e
theorem c_len (hK : Z.K = X.kw) : CallR X (.builtin "len") (rN Z fLen) := by
  obtain ⟨K, T, ec⟩ := Z
  obtain rfl : K = X.kw := hK
  intro pins st σ H xs us Q I rx ⟨m, g, ds, s, hd, h⟩
  unfold fLen at h
  split at h
  · obtain ⟨v, rfl, h1⟩ := reps1 hd
    obtain ⟨p, ys, rfl, h1, h2⟩ := ix_tup_l h1
    exact call_len_seq pins st σ H _ us Q I rx ⟨p, ys, rfl, .inr h1, by rw [← h2.length]; exact h.here s D.mk_int⟩
  · obtain ⟨v, rfl, h1⟩ := reps1 hd
    cases D.str_inv h1
    split at h
    · rename_i hl
      exact call_len_str pins st σ H _ us Q I rx ⟨_, rfl, by rw [sizeLine_eq]; exact hl, h.here s D.mk_int⟩
    · exact h.elim
  · obtain ⟨v, rfl, h1⟩ := reps1 hd
    cases e : lstOf g _ with
    | none => rw [e] at h; exact h.elim
    | some es =>
      rw [e] at h
      obtain ⟨p, ys, rfl, h2, h3⟩ := lstOf_at s h1 e
      exact call_len_seq pins st σ H _ us Q I rx ⟨p, ys, rfl, .inl h2, by rw [← h3.length]; exact Post.here (d := D.int es.length) h s D.mk_int⟩
  · exact h.elim
theorem c_abs : CallR X (.builtin "abs") (rN Z fAbs) := by
  intro pins st σ H xs us Q I rx ⟨m, g, ds, s, hd, h⟩
  unfold fAbs at h
  split at h
  · obtain ⟨v, rfl, h1⟩ := reps1 hd
    cases D.int_inv h1
    exact call_abs pins st σ H _ us Q I rx ⟨_, rfl, h.here s D.mk_int⟩
  · exact h.elim
theorem foldl_min : ∀ (is : List Int) (i : Int), (is.foldl (fun a b => if b < a then b else a) i ∈ i :: is) ∧ ∀ y ∈ i :: is, is.foldl (fun a b => if b < a then b else a) i ≤ y
  | [], i => ⟨by simp, fun y hy => by simp at hy; subst hy; exact Int.le_refl _⟩
  | j :: is, i => by
    obtain ⟨h1, h2⟩ := foldl_min is (if j < i then j else i)
    simp only [List.foldl_cons]
    refine ⟨?_, fun y hy => ?_⟩
    · rcases List.mem_cons.mp h1 with h | h
      · rw [h]; split <;> simp
      · exact List.mem_cons_of_mem _ (List.mem_cons_of_mem _ h)
    · have h3 := h2 _ List.mem_cons_self
      have h4 : (if j < i then j else i) ≤ i ∧ (if j < i then j else i) ≤ j := by split <;> omega
      rcases List.mem_cons.mp hy with rfl | hy
      · exact Int.le_trans h3 h4.1
      · rcases List.mem_cons.mp hy with rfl | hy
        · exact Int.le_trans h3 h4.2
        · exact h2 y (List.mem_cons_of_mem _ hy)
theorem foldl_max : ∀ (is : List Int) (i : Int), (is.foldl (fun a b => if a < b then b else a) i ∈ i :: is) ∧ ∀ y ∈ i :: is, y ≤ is.foldl (fun a b => if a < b then b else a) i
  | [], i => ⟨by simp, fun y hy => by simp at hy; subst hy; exact Int.le_refl _⟩
  | j :: is, i => by
    obtain ⟨h1, h2⟩ := foldl_max is (if i < j then j else i)
    simp only [List.foldl_cons]
    refine ⟨?_, fun y hy => ?_⟩
    · rcases List.mem_cons.mp h1 with h | h
      · rw [h]; split <;> simp
      · exact List.mem_cons_of_mem _ (List.mem_cons_of_mem _ h)
    · have h3 := h2 _ List.mem_cons_self
      have h4 : i ≤ (if i < j then j else i) ∧ j ≤ (if i < j then j else i) := by split <;> omega
      rcases List.mem_cons.mp hy with rfl | hy
      · exact Int.le_trans h4.1 h3
      · rcases List.mem_cons.mp hy with rfl | hy
        · exact Int.le_trans h4.2 h3
        · exact h2 y (List.mem_cons_of_mem _ hy)
theorem minI_is (i : Int) (is : List Int) : minI (i :: is) ∈ i :: is ∧ ∀ y ∈ i :: is, minI (i :: is) ≤ y := foldl_min is i
theorem maxI_is (i : Int) (is : List Int) : maxI (i :: is) ∈ i :: is ∧ ∀ y ∈ i :: is, y ≤ maxI (i :: is) := foldl_max is i
theorem lst_ints {K : KW} {T : List (Addr × Str)} {m : List Addr} {g : GH} {H : Hp} {d : D} {is : List Int} {v : V} (s : S K T m g H) (h : DRep K m H d v) (e : (lstOf g d).bind intsOf = some is) : ∃ p, v = .ref p ∧ SqL K.K H p (is.map V.int) := by
  rw [Option.bind_eq_some_iff] at e
  obtain ⟨ds, e1, e2⟩ := e
  obtain ⟨p, xs, rfl, h1, h2⟩ := lstOf_at s h e1
  rw [ints_reps h2 e2] at h1
  exact ⟨p, rfl, h1⟩
theorem c_min (hK : Z.K = X.kw) (hc : X.calm = true) : CallR X (.builtin "min") (rN Z fMin) := by
  obtain ⟨K, T, ec⟩ := Z
  obtain rfl : K = X.kw := hK
  intro pins st σ H xs us Q I rx ⟨m, g, ds, s, hd, h⟩
  unfold fMin at h
  split at h
  · obtain ⟨v, u, rfl, h1, h2⟩ := reps2 hd
    cases D.int_inv h1; cases D.int_inv h2
    exact call_min2 hc pins st σ H _ us Q I rx ⟨_, _, rfl, h.here s D.mk_int⟩
  · obtain ⟨v, rfl, h1⟩ := reps1 hd
    split at h
    · rename_i i is e
      obtain ⟨p, rfl, h2⟩ := lst_ints s h1 e
      refine cr_min hc pins st σ H _ us Q I rx ⟨p, i :: is, rfl, h2, by simp, fun k hk hle => ?_⟩
      obtain ⟨a1, a2⟩ := minI_is i is
      have : k = minI (i :: is) := Int.le_antisymm (hle _ a1) (a2 _ hk)
      rw [this]
      exact h.here s D.mk_int
    · exact h.elim
  · exact h.elim
theorem c_max (hK : Z.K = X.kw) (hc : X.calm = true) : CallR X (.builtin "max") (rN Z fMax) := by
  obtain ⟨K, T, ec⟩ := Z
  obtain rfl : K = X.kw := hK
  intro pins st σ H xs us Q I rx ⟨m, g, ds, s, hd, h⟩
  unfold fMax at h
  split at h
  · obtain ⟨v, u, rfl, h1, h2⟩ := reps2 hd
    cases D.int_inv h1; cases D.int_inv h2
    exact call_max2 hc pins st σ H _ us Q I rx ⟨_, _, rfl, h.here s D.mk_int⟩
  · obtain ⟨v, rfl, h1⟩ := reps1 hd
    split at h
    · rename_i i is e
      obtain ⟨p, rfl, h2⟩ := lst_ints s h1 e
      refine cr_max hc pins st σ H _ us Q I rx ⟨p, i :: is, rfl, h2, by simp, fun k hk hle => ?_⟩
      obtain ⟨a1, a2⟩ := maxI_is i is
      have : k = maxI (i :: is) := Int.le_antisymm (a2 _ hk) (hle _ a1)
      rw [this]
      exact h.here s D.mk_int
    · exact h.elim
  · exact h.elim
theorem c_sum (hK : Z.K = X.kw) (hc : X.calm = true) : CallR X (.builtin "sum") (rN Z fSum) := by
  obtain ⟨K, T, ec⟩ := Z
  obtain rfl : K = X.kw := hK
  intro pins st σ H xs us Q I rx ⟨m, g, ds, s, hd, h⟩
  unfold fSum at h
  split at h
  · obtain ⟨v, rfl, h1⟩ := reps1 hd
    split at h
    · rename_i is e
      obtain ⟨p, rfl, h2⟩ := lst_ints s h1 e
      exact cr_sum hc pins st σ H _ us Q I rx ⟨p, is, rfl, h2, h.here s D.mk_int⟩
    · exact h.elim
  · exact h.elim
theorem c_int : CallR X (.type "int") (rN Z fInt) := by
  intro pins st σ H xs us Q I rx ⟨m, g, ds, s, hd, h⟩
  unfold fInt at h
  split at h
  · obtain ⟨v, rfl, h1⟩ := reps1 hd
    cases D.int_inv h1
    exact call_int1 pins st σ H _ us Q I rx (.inl ⟨_, rfl, h.here s D.mk_int⟩)
  · obtain ⟨v, rfl, h1⟩ := reps1 hd
    cases D.bl_inv h1
    exact call_int1 pins st σ H _ us Q I rx (.inr ⟨_, rfl, h.here s D.mk_int⟩)
  · obtain ⟨v, rfl, h1⟩ := reps1 hd
    cases D.str_inv h1
    split at h
    · rename_i hl
      cases e : PySem.intText? _ with
      | none => rw [e] at h; exact h.elim
      | some n =>
        rw [e] at h
        exact call_int_str pins st σ H _ us Q I rx ⟨_, n, rfl, e, hl, Post.here (d := D.int n) h s D.mk_int⟩
    · exact h.elim
  · exact h.elim
theorem c_bool : CallR X (.type "bool") (rN Z fBool) := by
  intro pins st σ H xs us Q I rx ⟨m, g, ds, s, hd, h⟩
  unfold fBool at h
  split at h
  · obtain ⟨v, rfl, h1⟩ := reps1 hd
    cases D.int_inv h1
    exact call_bool1 pins st σ H _ us Q I rx (.inl ⟨_, rfl, h.here s D.mk_bl⟩)
  · obtain ⟨v, rfl, h1⟩ := reps1 hd
    cases D.bl_inv h1
    exact call_bool1 pins st σ H _ us Q I rx (.inr ⟨_, rfl, h.here s D.mk_bl⟩)
  · exact h.elim
theorem c_str : CallR X (.type "str") (rN Z fStr) := by
  intro pins st σ H xs us Q I rx ⟨m, g, ds, s, hd, h⟩
  unfold fStr at h
  split at h
  · obtain ⟨v, rfl, h1⟩ := reps1 hd
    cases D.int_inv h1
    split at h
    · rename_i hl
      exact call_str_int pins st σ H _ us Q I rx ⟨_, rfl, hl, h.here s D.mk_str⟩
    · exact h.elim
  · exact h.elim
theorem c_list (hK : Z.K = X.kw) : CallR X (.type "list") (rN Z fList) := by
  obtain ⟨K, T, ec⟩ := Z
  obtain rfl : K = X.kw := hK
  intro pins st σ H xs us Q I rx ⟨m, g, ds, s, hd, h⟩
  unfold fList at h
  split at h
  · obtain ⟨v, rfl, h1⟩ := reps1 hd
    obtain ⟨p, ys, rfl, h1, h2⟩ := ix_tup_l h1
    refine call_list_of pins st σ H _ us Q I rx ⟨p, ys, rfl, .inr h1, fun p hp => ?_⟩
    obtain ⟨e1, s1, r1⟩ := lst_new s h2 hp
    exact h _ _ (.ref p) e1 s1 r1
  · obtain ⟨v, rfl, h1⟩ := reps1 hd
    cases e : lstOf g _ with
    | none => rw [e] at h; exact h.elim
    | some es =>
      rw [e] at h
      obtain ⟨p, ys, rfl, h2, h3⟩ := lstOf_at s h1 e
      refine call_list_of pins st σ H _ us Q I rx ⟨p, ys, rfl, .inl h2, fun p hp => ?_⟩
      obtain ⟨e1, s1, r1⟩ := lst_new s h3 hp
      exact h _ _ (.ref p) e1 s1 r1
  · exact h.elim
theorem c_tuple (hK : Z.K = X.kw) : CallR X (.type "tuple") (rN Z fTuple) := by
  obtain ⟨K, T, ec⟩ := Z
  obtain rfl : K = X.kw := hK
  intro pins st σ H xs us Q I rx ⟨m, g, ds, s, hd, h⟩
  unfold fTuple at h
  split at h
  · obtain ⟨v, rfl, h0⟩ := reps1 hd
    obtain ⟨p, ys, rfl, h1, h2⟩ := ix_tup_l h0
    exact call_tuple_of pins st σ H _ us Q I rx ⟨p, ys, rfl, .inr ⟨h1, Post.here h s h0⟩⟩
  · obtain ⟨v, rfl, h1⟩ := reps1 hd
    cases e : lstOf g _ with
    | none => rw [e] at h; exact h.elim
    | some es =>
      rw [e] at h
      obtain ⟨p, ys, rfl, h2, h3⟩ := lstOf_at s h1 e
      refine call_tuple_of pins st σ H _ us Q I rx ⟨p, ys, rfl, .inl ⟨h2, fun p hp => ?_⟩⟩
      obtain ⟨e1, s1, r1⟩ := tup_new s h3 hp
      exact h _ _ (.ref p) e1 s1 r1
  · exact h.elim
/-- xs.append(e) -/
theorem pe3_app {apos : Pos} {o e : Expr} (hK : Z.K = X.kw) (ho : PE X o (tE Z ea W)) (ha : PE X e (tE Z eb W)) (hbase : attributeBase o "append" X.env (eval o X.env) = eval o X.env := by rfl)
    (hfew : ((backTo pos (starEach [e] X.env)).all (fun x => !x.1) && (backToKw pos (keywordEach [] X.env)).all (fun x => x.1.isSome)
      && decide ([e].length + ([] : List Keyword).length + (if ([] : List Keyword).isEmpty then 0 else 1) < 30)) = true := by rfl)
    (hline : (apos.endLine == pos.line) = true := by rfl) (hs : starEach [e] X.env = (false, eval e X.env) :: starEach [] X.env := by rfl) (hplain : (backTo pos (starEach [] X.env)).any (·.1) = false := by rfl) :
    PE X (.Call (.Attribute o "append" apos) [e] [] pos) (tE Z (eApp ea eb) W) := by
  obtain ⟨K, T, ec⟩ := Z
  obtain rfl : K = X.kw := hK
  refine (pe_bm PySem.F.plainAttrs_list PySem.F.slot_list_append PySem.F.type_list_append mt_append ho (pa_cons ha pa_nil hs) hbase hfew hline hs hplain).imp fun σ H Q ⟨m, g, ρ, s, r, h⟩ => ⟨m, g, ρ, s, r, Post.bind h fun m1 H1 d v g1 e1 s1 r1 h1 => ?_⟩
  split at h1
  · rename_i es0 e0
    obtain ⟨p0, xs0, rfl, h20, h30⟩ := lstOf_at s1 r1 e0
    refine ⟨.inl ⟨rfl, xs0, h20⟩, m1, g1, ρ, s1, r.mono e1, Post.bind h1 fun m2 H2 x u g2 e2 s2 r2 h2 => ?_⟩
    split at h2
    · rename_i i
      split at h2
      · rename_i ds e3
        split at h2
        · rename_i hl
          obtain ⟨p, xs, e4, hm, h3, h4⟩ := lst_at s2 (r1.mono e2) e3
          cases e4
          have k := s2.put (u := .lst (xs ++ [u])) (o := .lst (ds ++ [x])) hm h3 trivial
          have e5 : DReps X.kw m2 H2 (ds ++ [x]) (xs ++ [u]) := h4.append (by rw [DReps]; exact ⟨u, [], rfl, r2, by rw [DReps]⟩)
          have ex : Ext m2 H2 m2 (upd H2 p0 (.lst (xs ++ [u]))) := s2.putE hm h3 trivial
          obtain ⟨e6, s6⟩ := k ⟨_, upd_same, DReps.mono ex _ _ e5⟩
          exact ⟨p0, xs, u, rfl, rfl, h3, by rw [← h4.length, sizeLine_eq]; exact hl, h2 m2 _ .non e6 s6 D.mk_non⟩
        · exact h2.elim
      · exact h2.elim
    · exact h2.elim
  · exact h1.elim
end
end L3

/-! L3e: targets, statements, loops, comprehensions, defs. -/
namespace L3
open PySem PySem.Spec PyProof.Rows L2

/-! ### targets -/
inductive T3 where
  | one (i : Nat) | tup (is : List Nat)
def setR : Rho → List Nat → List D → Rho
  | ρ, i :: is, d :: ds => setR (ρ.set i (some d)) is ds
  | ρ, _, _ => ρ
def setV : L2.St → List Nat → List V → L2.St
  | σ, i :: is, d :: ds => setV (σ.set i (some d)) is ds
  | σ, _, _ => σ
def T3.set (t : T3) (d : D) (ρ : Rho) : Option Rho := match t with
  | .one i => some (ρ.set i (some d))
  | .tup is => match d with
    | .tup ds => if ds.length = is.length then some (setR ρ is ds) else none
    | _ => none
def gOfs : List Nat → TGs
  | [] => gNil
  | i :: is => gCons (gName i) (gOfs is)
def gOf (K : PySem.W.Frag) : T3 → TG
  | .one i => gName i
  | .tup is => gTup K is.length (gOfs is)
def T3.slots : T3 → List Nat
  | .one i => [i]
  | .tup is => is
section
variable {K : KW} {T : List (Addr × Str)} {m : List Addr} {H : Hp} {g : GH} {ρ ρ' : Rho} {σ : L2.St}
theorem setV_length : ∀ (is : List Nat) (vs : List V) (σ : L2.St), (setV σ is vs).length = σ.length
  | [], _, _ => by unfold setV; rfl
  | i :: is, [], _ => by unfold setV; rfl
  | i :: is, v :: vs, σ => by
    rw [setV, setV_length is vs]
    simp
theorem gOfs_run : ∀ (is : List Nat) (vs : List V) (σ : L2.St) (H : Hp) (Q : L2.St → Hp → Prop), vs.length = is.length → Q (setV σ is vs) H → gOfs is vs σ H Q
  | [], vs, σ, H, Q, h, q => by
    have : vs = [] := by simpa using h
    subst this
    exact ⟨rfl, by unfold setV at q; exact q⟩
  | i :: is, [], σ, H, Q, h, q => by simp at h
  | i :: is, v :: vs, σ, H, Q, h, q => by
    refine ⟨v, vs, rfl, ?_⟩
    show gOfs is vs (σ.set i (some v)) H Q
    exact gOfs_run is vs _ H Q (by simpa using h) (by rw [setV] at q; exact q)
theorem setR_rep : ∀ (is : List Nat) (ds : List D) (vs : List V) (ρ : Rho) (σ : L2.St), RhoRep K m H ρ σ → DReps K m H ds vs → (∀ i ∈ is, i < σ.length) → RhoRep K m H (setR ρ is ds) (setV σ is vs)
  | [], _, _, ρ, σ, r, _, _ => by unfold setR setV; exact r
  | i :: is, [], vs, ρ, σ, r, h, _ => by
    rw [DReps] at h
    subst h
    unfold setR setV
    exact r
  | i :: is, d :: ds, vs, ρ, σ, r, h, hi => by
    rw [DReps] at h
    obtain ⟨v, vs', rfl, h1, h2⟩ := h
    rw [setR, setV]
    exact setR_rep is ds vs' _ _ (r.set (hi i List.mem_cons_self) h1) h2 fun j hj => by rw [List.length_set]; exact hi j (List.mem_cons_of_mem _ hj)
theorem T3.run {t : T3} {d : D} {v : V} {Q : L2.St → Hp → Prop} (r : RhoRep K m H ρ σ) (h : DRep K m H d v) (e : t.set d ρ = some ρ') (hs : ∀ i ∈ t.slots, i < σ.length)
    (k : ∀ σ', σ'.length = σ.length → RhoRep K m H ρ' σ' → (∀ vs, (∀ i ∈ t.slots, i ∈ vs) → wipe σ' vs = wipe σ vs) → Q σ' H) : gOf K.K t v σ H Q := by
  have wset : ∀ (vs : List Nat) (i : Nat) (o : Option V) (σ : L2.St), i ∈ vs → wipe (σ.set i o) vs = wipe σ vs := by
    intro vs
    induction vs with
    | nil => intro i o σ h; cases h
    | cons w ws ih =>
      intro i o σ hi
      show (wipe (σ.set i o) ws).set w none = (wipe σ ws).set w none
      by_cases hw : i ∈ ws
      · rw [ih i o σ hw]
      · have hiw : i = w := by
          rcases List.mem_cons.mp hi with z | z
          · exact z
          · exact absurd z hw
        subst hiw
        have comm : ∀ (us : List Nat) (σ : L2.St), i ∉ us → wipe (σ.set i o) us = (wipe σ us).set i o := by
          intro us
          induction us with
          | nil => intro σ _; rfl
          | cons u us ih2 =>
            intro σ hu
            show (wipe (σ.set i o) us).set u none = ((wipe σ us).set u none).set i o
            rw [ih2 σ fun z => hu (List.mem_cons_of_mem _ z), List.set_comm]
            intro z
            exact hu (by rw [z]; exact List.mem_cons_self)
        rw [comm ws σ hw, List.set_set]
  cases t with
  | one i =>
    cases e
    exact k _ (by simp) (r.set (hs i (by simp [T3.slots])) h) fun vs hv => wset vs i _ σ (hv i (by simp [T3.slots]))
  | tup is =>
    unfold T3.set at e
    simp only at e
    split at e
    · rename_i ds
      split at e
      · rename_i hl
        cases e
        rw [DRep] at h
        obtain ⟨a, xs, rfl, h1, h2⟩ := h
        refine ⟨a, xs, rfl, h1, by rw [← h2.length]; exact hl, gOfs_run is xs σ H Q (by rw [← h2.length]; exact hl) (k _ (setV_length _ _ _) (setR_rep is ds xs ρ σ r h2 hs) fun vs hv => ?_)⟩
        have : ∀ (js : List Nat) (ys : List V) (σ : L2.St), (∀ i ∈ js, i ∈ vs) → wipe (setV σ js ys) vs = wipe σ vs := by
          intro js
          induction js with
          | nil => intro ys σ _; unfold setV; rfl
          | cons j js ih =>
            intro ys σ hj
            cases ys with
            | nil => unfold setV; rfl
            | cons y ys =>
              rw [setV, ih ys _ fun i hi => hj i (List.mem_cons_of_mem _ hi), wset vs j _ σ (hj j List.mem_cons_self)]
        exact this is xs σ hv
      · cases e
    · cases e
end
section
variable {X : Cx}
theorem pg3_one {i : Nat} {x : Str} {pos : Pos} (hN : X.N.Nodup) (hi : X.N[i]? = some x) (hx : Loc X.env.scope x) (hf : X.fn x = true ∨ X.env.scope.names.lookup x = some .local := by first | exact .inl rfl | exact .inr rfl) : PG X (.Name x pos) (gOf X.K (.one i)) := pg_name hN hi hx hf
theorem pgs3_nil : PGs X [] (gOfs []) := pgs_nil
theorem pgs3_cons {i : Nat} {is : List Nat} {x : Str} {pos : Pos} {es : List Expr} (hN : X.N.Nodup) (hi : X.N[i]? = some x) (hx : Loc X.env.scope x) (r : PGs X es (gOfs is)) (hf : X.fn x = true ∨ X.env.scope.names.lookup x = some .local := by first | exact .inl rfl | exact .inr rfl) :
    PGs X (.Name x pos :: es) (gOfs (i :: is)) := pgs_cons (pg_name hN hi hx hf) r
end

/-! ### statements -/
def bindS {α : Type} (r : Res α) (ρ : Rho) (k : α → GH → Out) : Out := match r with
  | .ok a g => k a g
  | .er e g => .er e ρ g
  | .bad => .bad
@[simp] theorem bindS_ok {α : Type} (a : α) (g : GH) (ρ : Rho) (k : α → GH → Out) : bindS (.ok a g) ρ k = k a g := rfl
@[simp] theorem bindS_er {α : Type} (e : Exc) (g : GH) (ρ : Rho) (k : α → GH → Out) : bindS (.er e g : Res α) ρ k = .er e ρ g := rfl
@[simp] theorem bindS_bad {α : Type} (ρ : Rho) (k : α → GH → Out) : bindS (.bad : Res α) ρ k = .bad := rfl
def sNil : SV := fun ρ g => .nx ρ g
def sSeq (a b : SV) : SV := fun ρ g => match a ρ g with
  | .nx ρ' g' => b ρ' g'
  | o => o
def sAsg (t : T3) (e : EV) : SV := fun ρ g => bindS (e ρ g) ρ fun d g1 => match t.set d ρ with
  | some ρ' => .nx ρ' g1
  | none => .bad
def sPar (i j : Nat) (a b : EV) : SV := fun ρ g => bindS (a ρ g) ρ fun d g1 => bindS (b ρ g1) ρ fun e g2 => .nx ((ρ.set i (some d)).set j (some e)) g2
def sPar3 (i j k : Nat) (a b c : EV) : SV := fun ρ g => bindS (a ρ g) ρ fun d g1 => bindS (b ρ g1) ρ fun e g2 => bindS (c ρ g2) ρ fun f g3 => .nx (((ρ.set i (some d)).set j (some e)).set k (some f)) g3
def sExp (e : EV) : SV := fun ρ g => bindS (e ρ g) ρ fun _ g1 => .nx ρ g1
def sRet (e : EV) : SV := fun ρ g => bindS (e ρ g) ρ fun d g1 => .rt d g1
def sIf (t : TV) (a b : SV) : SV := fun ρ g => bindS (t ρ g) ρ fun c g1 => if c then a ρ g1 else b ρ g1
def sBrk : SV := fun ρ g => .bk ρ g
def sCnt : SV := fun ρ g => .ct ρ g
def sRaise (c : Nat) : SV := fun ρ g => .er (.own c) ρ g
mutual
def D.same : D → D → Bool
  | .non, .non => true
  | .bl a, .bl b => a == b
  | .int a, .int b => a == b
  | .str a, .str b => a == b
  | .tup a, .tup b => D.sames a b
  | .rol a, .rol b => D.sames a b
  | .scr a, .scr b => D.sames a b
  | .ref a, .ref b => a == b
  | _, _ => false
def D.sames : List D → List D → Bool
  | [], [] => true
  | a :: as, b :: bs => D.same a b && D.sames as bs
  | _, _ => false
end
mutual
theorem D.same_refl : ∀ d : D, D.same d d = true
  | .non => by simp [D.same]
  | .bl _ => by simp [D.same]
  | .int _ => by simp [D.same]
  | .str _ => by simp [D.same]
  | .tup ds => by simpa [D.same] using D.sames_refl ds
  | .rol ds => by simpa [D.same] using D.sames_refl ds
  | .scr ds => by simpa [D.same] using D.sames_refl ds
  | .ref _ => by simp [D.same]
theorem D.sames_refl : ∀ ds : List D, D.sames ds ds = true
  | [] => by simp [D.sames]
  | d :: ds => by simp [D.sames, D.same_refl d, D.sames_refl ds]
end
mutual
theorem D.same_eq : ∀ a b : D, D.same a b = true → a = b
  | .non, b, h => by cases b <;> simp [D.same] at h <;> rfl
  | .bl _, b, h => by cases b <;> simp [D.same] at h; rw [h]
  | .int _, b, h => by cases b <;> simp [D.same] at h; rw [h]
  | .str _, b, h => by cases b <;> simp [D.same] at h; rw [h]
  | .tup ds, b, h => by
    cases b <;> simp [D.same] at h
    rw [D.sames_eq _ _ h]
  | .rol ds, b, h => by
    cases b <;> simp [D.same] at h
    rw [D.sames_eq _ _ h]
  | .scr ds, b, h => by
    cases b <;> simp [D.same] at h
    rw [D.sames_eq _ _ h]
  | .ref _, b, h => by cases b <;> simp [D.same] at h; rw [h]
theorem D.sames_eq : ∀ a b : List D, D.sames a b = true → a = b
  | [], [], _ => rfl
  | [], _ :: _, h => by simp [D.sames] at h
  | _ :: _, [], h => by simp [D.sames] at h
  | a :: as, b :: bs, h => by
    simp only [D.sames, Bool.and_eq_true] at h
    rw [D.same_eq a b h.1, D.sames_eq as bs h.2]
end
def sameP : List (D × D) → List (D × D) → Bool
  | [], [] => true
  | (k, d) :: r, (k', d') :: r' => D.same k k' && D.same d d' && sameP r r'
  | _, _ => false
def sameO : GO → GO → Bool
  | .lst a, .lst b => D.sames a b
  | .iset a, .iset b => a == b
  | .dct a, .dct b => sameP a b
  | .dcf a, .dcf b => sameP a b
  | .dkn a, .dkn b => a == b
  | _, _ => false
theorem sameP_eq : ∀ a b : List (D × D), sameP a b = true → a = b
  | [], [], _ => rfl
  | [], _ :: _, h => by simp [sameP] at h
  | (_, _) :: _, [], h => by simp [sameP] at h
  | (k, d) :: r, (k', d') :: r', h => by
    simp only [sameP, Bool.and_eq_true] at h
    rw [D.same_eq k k' h.1.1, D.same_eq d d' h.1.2, sameP_eq r r' h.2]
theorem sameP_refl : ∀ a : List (D × D), sameP a a = true
  | [] => rfl
  | (k, d) :: r => by simp [sameP, D.same_refl, sameP_refl r]
theorem sameO_eq (a b : GO) (h : sameO a b = true) : a = b := by
  cases a <;> cases b <;> simp [sameO] at h
  · rw [D.sames_eq _ _ h]
  · rw [h]
  · rw [sameP_eq _ _ h]
  · rw [sameP_eq _ _ h]
  · rw [h]
theorem sameO_refl (a : GO) : sameO a a = true := by
  cases a with
  | lst ds => exact D.sames_refl ds
  | iset ks => simp [sameO]
  | dct kvs => exact sameP_refl kvs
  | dcf kvs => exact sameP_refl kvs
  | dkn n => simp [sameO]
abbrev Deps := List (Nat × GO)
def depsOk (g : GH) : Deps → Bool
  | [] => true
  | (i, o) :: r => (match g[i]? with | some u => sameO u o | _ => false) && depsOk g r
theorem depsOk_mem {g : GH} : ∀ {l : Deps} {i : Nat} {o : GO}, depsOk g l = true → (i, o) ∈ l → g[i]? = some o
  | [], _, _, _, h => by cases h
  | (j, es) :: l, i, ds, h, hm => by
    simp only [depsOk, Bool.and_eq_true] at h
    rcases List.mem_cons.mp hm with e | hm
    · cases e
      have h1 := h.1
      split at h1
      · rename_i fs e1
        rw [sameO_eq _ _ h1] at e1
        exact e1
      · cases h1
    · exact depsOk_mem h.2 hm
structure Src where
  deps : Deps
  items : List D
abbrev IV := Rho → GH → Res Src
/-- a walk of a list or a tuple -/
def iSeq (a : EV) : IV := fun ρ g => (a ρ g).bind fun d g1 => match d with
  | .tup ds => .ok ⟨[], ds⟩ g1
  | .rol ds => .ok ⟨[], ds⟩ g1
  | .ref i => match g1[i]? with
    | some (.lst ds) => .ok ⟨[(i, .lst ds)], ds⟩ g1
    | _ => .bad
  | _ => .bad
def iRg1 (a : EV) : IV := fun ρ g => (a ρ g).bind fun d g1 => match d with
  | .int n => if n.natAbs < 4611686018427387904 then .ok ⟨[], rangeD 0 n⟩ g1 else .bad
  | _ => .bad
def iRg2 (a b : EV) : IV := fun ρ g => (a ρ g).bind fun d g1 => (b ρ g1).bind fun e g2 => match d, e with
  | .int n, .int k => if n.natAbs < 4611686018427387904 ∧ k.natAbs < 4611686018427387904 then .ok ⟨[], rangeD n k⟩ g2 else .bad
  | _, _ => .bad
def forL (deps : Deps) (step : D → SV) : List D → SV
  | [], ρ, g => if depsOk g deps then .nx ρ g else .bad
  | x :: xs, ρ, g => if depsOk g deps then (match step x ρ g with
    | .nx ρ' g' => forL deps step xs ρ' g'
    | .ct ρ' g' => forL deps step xs ρ' g'
    | .bk ρ' g' => .nx ρ' g'
    | o => o) else .bad
def stepOf (t : T3) (body : SV) : D → SV := fun d ρ g => match t.set d ρ with
  | some ρ' => body ρ' g
  | none => .bad
def sFor (src : IV) (t : T3) (body : SV) : SV := fun ρ g => bindS (src ρ g) ρ fun s g1 => forL s.deps (stepOf t body) s.items ρ g1
def whileL (t : TV) (body : SV) : Nat → SV
  | 0, _, _ => .bad
  | n + 1, ρ, g => bindS (t ρ g) ρ fun c g1 => if c then (match body ρ g1 with
    | .nx ρ' g' => whileL t body n ρ' g'
    | .ct ρ' g' => whileL t body n ρ' g'
    | .bk ρ' g' => .nx ρ' g'
    | o => o) else .nx ρ g1
def wipeR (ρ : Rho) : List Nat → Rho
  | [] => ρ
  | v :: vs => (wipeR ρ vs).set v none
def noEr {α : Type} (r : Res α) : Res α := match r with
  | .er _ _ => .bad
  | o => o
def compL (deps : Deps) (t : T3) (test : TV) (elt : EV) (ρ : Rho) : List D → GH → Res (List D)
  | [], g => if depsOk g deps then .ok [] g else .bad
  | x :: xs, g => if depsOk g deps then (match t.set x ρ with
    | some ρ' => (noEr (test ρ' g)).bind fun b g1 => if b then (noEr (elt ρ' g1)).bind fun y g2 => (compL deps t test elt ρ xs g2).bind fun ys g3 => .ok (y :: ys) g3 else compL deps t test elt ρ xs g1
    | none => .bad) else .bad
def tYes3 : TV := fun _ g => .ok true g
def eComp (src : IV) (t : T3) (test : TV) (elt : EV) (own : List Nat) : EV := fun ρ g => (src ρ g).bind fun s g1 => if s.items.length < 16777216 then (compL s.deps t test elt (wipeR ρ own) s.items g1).bind fun ys g2 => .ok (.ref g2.length) (g2 ++ [.lst ys]) else .bad
/-- a def's body, called -/
def runB (b : SV) (n : Nat) : List D → GH → Res D := fun ds g => match b (ds.map some ++ List.replicate (n - ds.length) none) g with
  | .nx _ g' => .ok .non g'
  | .rt d g' => .ok d g'
  | .er e _ g' => .er e g'
  | _ => .bad

section
variable {X : Cx} {Z : Row} {W : WX} {pos : Pos} {a b c : Expr} {ea eb ecc : EV} {ta tb : TV} {sa sb : SV}
theorem PostS.bind {α β : Type} {R : List Addr → Hp → α → β → Prop} {r : Res α} {ρ : Rho} {k : α → GH → Out} {m : List Addr} {H : Hp} {D : Ends} {σ : L2.St} {Q1 : β → Hp → Prop} (h : PostS Z (bindS r ρ k) m H σ.length D W) (rr : RhoRep Z.K m H ρ σ)
    (kk : ∀ m1 H1 d v g, Ext m H m1 H1 → S Z.K Z.T m1 g H1 → R m1 H1 d v → PostS Z (k d g) m1 H1 σ.length D W → Q1 v H1) : Post Z.K Z.T R r m H Q1 (WofX Z W σ) := by
  cases r with
  | ok d g => exact fun m1 H1 v e s r1 => kk m1 H1 d v g e s r1 (PostS.ext (o := k d g) h e)
  | er x g => exact fun m1 H1 e s cls d er => h m1 H1 σ cls d e s rfl (rr.mono e) er
  | bad => exact h
theorem pss3_nil : PSs X [] (tS Z sNil W) := pss_nil.imp fun D σ H _ ⟨m, g, ρ, s, r, h⟩ => h m H σ .refl s rfl r
theorem pss3_cons {st : Stmt} {rest : List Stmt} (h1 : PS X st (tS Z sa W)) (h2 : PSs X rest (tS Z sb W)) : PSs X (st :: rest) (tS Z (sSeq sa sb) W) :=
  (pss_cons h1 h2).imp fun D σ H _ ⟨m, g, ρ, s, r, h⟩ => ⟨m, g, ρ, s, r, by
    unfold sSeq at h
    cases e : sa ρ g with
    | nx ρ' g' =>
      rw [e] at h
      exact fun m' H' σ' e1 s1 hl r1 => ⟨m', g', ρ', s1, r1, by rw [hl]; exact PostS.ext h e1⟩
    | rt d g' => rw [e] at h; exact h
    | bk ρ' g' => rw [e] at h; exact h
    | ct ρ' g' => rw [e] at h; exact h
    | er x ρ' g' => rw [e] at h; exact h
    | bad => rw [e] at h; exact h⟩
theorem pss3_one {st : Stmt} (h1 : PS X st (tS Z sa W)) : PSs X [st] (tS Z sa W) := pss_one h1
theorem ps3_pass : PS X (.Pass pos) (tS Z sNil W) := ps_pass.imp fun D σ H _ ⟨m, g, ρ, s, r, h⟩ => h m H σ .refl s rfl r
theorem ps3_brk : PS X (.Break pos) (tS Z sBrk W) := ps_break.imp fun D σ H _ ⟨m, g, ρ, s, r, h⟩ => h m H σ .refl s rfl r
theorem ps3_cnt : PS X (.Continue pos) (tS Z sCnt W) := ps_continue.imp fun D σ H _ ⟨m, g, ρ, s, r, h⟩ => h m H σ .refl s rfl r
theorem ps3_doc {x j pos'} : PS X (.Expr (.Constant (.str x) j pos) pos') (tS Z sNil W) := ps_doc.imp fun D σ H _ ⟨m, g, ρ, s, r, h⟩ => h m H σ .refl s rfl r
theorem ps3_never {st : Stmt} : PS X st (tS Z (fun _ _ => .bad) W) := (ps_never (X := X) (st := st)).imp fun D σ H _ ⟨m, g, ρ, s, r, h⟩ => h.elim
theorem tgt_out {t : T3} {d : D} {v : V} {m : List Addr} {H : Hp} {g : GH} {ρ : Rho} {σ : L2.St} {D : Ends} (s : S Z.K Z.T m g H) (r : RhoRep Z.K m H ρ σ) (r1 : DRep Z.K m H d v) (hs : ∀ i ∈ t.slots, i < σ.length)
    (h : PostS Z (match t.set d ρ with | some ρ' => .nx ρ' g | none => .bad) m H σ.length D W) : gOf Z.K.K t v σ H D.nx := by
  split at h
  · rename_i ρ' e
    exact T3.run r r1 e hs fun σ' hl r2 _ => h m H σ' .refl s hl r2
  · exact h.elim
theorem ps3_asg {t : T3} {tg e : Expr} (hK : Z.K = X.kw) (he : PE X e (tE Z ea W)) (hg : PG X tg (gOf X.K t)) (ht : ∀ i ∈ t.slots, i < X.N.length) (hs : swapsWithSole [tg] e pos.line X.env = pure false := by rfl) (hw : swappedStores [tg] e X.env = pure none := by rfl) (h1 : (assignEach [tg] X.env).map (·.2) = [assign tg X.env] := by rfl) :
    PS X (.Assign [tg] e pos) (tS Z (sAsg t ea) W) := by
  obtain ⟨K, T, ec⟩ := Z
  obtain rfl : K = X.kw := hK
  exact (ps_asg he hg hs hw h1).imp fun D σ H hl ⟨m, g, ρ, s, r, h⟩ => ⟨m, g, ρ, s, r, PostS.bind h r fun m1 H1 d v g1 e1 s1 r1 h1 => tgt_out s1 (r.mono e1) r1 (by rw [hl]; exact ht) h1⟩
theorem ps3_set {i : Nat} {x : Str} {e : Expr} {pos' : Pos} (hN : X.N.Nodup) (hi : X.N[i]? = some x) (hx : Loc X.env.scope x) (he : PE X e (tE Z ea W)) (hs : swapsWith e (some (.Name x pos')) pos.line X.env = pure false := by rfl)
    (hf : X.fn x = true ∨ X.env.scope.names.lookup x = some .local := by first | exact .inl rfl | exact .inr rfl) : PS X (.Assign [.Name x pos'] e pos) (tS Z (sAsg (.one i) ea) W) :=
  (ps_set hN hi hx he hs hf).imp fun D σ H hl ⟨m, g, ρ, s, r, h⟩ => ⟨m, g, ρ, s, r, PostS.bind h r fun m1 H1 d v g1 e1 s1 r1 h1 =>
    h1 m1 H1 _ .refl s1 (by simp) ((r.mono e1).set (by rw [hl]; exact (List.getElem?_eq_some_iff.mp hi).1) r1)⟩
theorem ps3_par {i j : Nat} {x y : Str} {px py pt : Pos} {kt k2 pt2} (hc : X.calm = true) (hN : X.N.Nodup) (hi : X.N[i]? = some x) (hj : X.N[j]? = some y) (hij : i ≠ j) (hx : X.env.scope.names.lookup x = some .local) (hy : X.env.scope.names.lookup y = some .local)
    (ha : PE X a (tE Z ea W)) (hb : PE X b (tE Z eb W)) (hw : swappedStores [.Tuple [.Name x px, .Name y py] kt pt] (.Tuple [a, b] k2 pt2) X.env = pure (some [x, y]) := by rfl)
    (hse : starEach [a, b] X.env = (false, eval a X.env) :: starEach [b] X.env := by rfl) (hse2 : starEach [b] X.env = (false, eval b X.env) :: starEach [] X.env := by rfl) :
    PS X (.Assign [.Tuple [.Name x px, .Name y py] kt pt] (.Tuple [a, b] k2 pt2) pos) (tS Z (sPar i j ea eb) W) :=
  (ps_par hc hN hi hj hij hx hy (pa_cons ha (pa_cons hb pa_nil hse2) hse) hw).imp fun D σ H hl ⟨m, g, ρ, s, r, h⟩ => ⟨m, g, ρ, s, r, PostS.bind h r fun m1 H1 d v g1 e1 s1 r1 h1 =>
    ⟨m1, g1, ρ, s1, r.mono e1, PostS.bind h1 (r.mono e1) fun m2 H2 e u g2 e2 s2 r2 h2 => ⟨v, u, rfl, h2 m2 H2 _ .refl s2 (by simp) ((((r.mono e1).mono e2).set (by rw [hl]; exact (List.getElem?_eq_some_iff.mp hi).1) (r1.mono e2)).set (by rw [List.length_set, hl]; exact (List.getElem?_eq_some_iff.mp hj).1) r2)⟩⟩⟩
theorem ps3_exp {e : Expr} (he : PE X e (tE Z ea W)) (hs : swapsWith e none pos.line X.env = pure false := by rfl) : PS X (.Expr e pos) (tS Z (sExp ea) W) :=
  (ps_expr he hs).imp fun D σ H hl ⟨m, g, ρ, s, r, h⟩ => ⟨m, g, ρ, s, r, PostS.bind h r fun m1 H1 d v g1 e1 s1 r1 h1 => h1 m1 H1 σ .refl s1 rfl (r.mono e1)⟩
theorem ps3_ret {e : Expr} (he : PE X e (tE Z ea W)) : PS X (.Return (some e) pos) (tS Z (sRet ea) W) :=
  (ps_ret he).imp fun D σ H hl ⟨m, g, ρ, s, r, h⟩ => ⟨m, g, ρ, s, r, PostS.bind h r fun m1 H1 d v g1 e1 s1 r1 h1 => h1 m1 H1 v .refl s1 r1⟩
theorem ps3_if {t f : List Stmt} (hc : PT X c (tT Z ta W)) (ha : PSs X t (tS Z sa W)) (hb : PSs X f (tS Z sb W)) : PS X (.If c t f pos) (tS Z (sIf ta sa sb) W) :=
  (ps_if hc ha hb).imp fun D σ H hl ⟨m, g, ρ, s, r, h⟩ => ⟨m, g, ρ, s, r, PostS.bind h r fun m1 H1 k v g1 e1 s1 r1 h1 => by
    cases r1
    cases k with
    | true => rw [if_pos rfl] at h1 ⊢; exact ⟨m1, g1, ρ, s1, r.mono e1, h1⟩
    | false => rw [if_neg Bool.false_ne_true] at h1 ⊢; exact ⟨m1, g1, ρ, s1, r.mono e1, h1⟩⟩
/-- raise X("..") -/
theorem ps3_raise {C : Addr} {B newId initId : String} {bmB : List Value} {cI : Nat} {x mm : Str} {j : Nat} {p p2 pos2 : Pos} (hc : X.calm = true) (tk : Takes X W) (F : ExcBaseFacts B newId initId bmB) (q : PySem.W.excIn X.K C bmB newId = true) (gC : X.mg x = some (.ref C))
    (kC : PySem.W.keepIn X.K (.ref C) = true) (rr : Raises X (.ref C)) (hg : Gl X x) (hE : Z.ec cI = C) (hdb : (x == ("__debug__" : Str)) = false := by decide) :
    PS X (.Raise (some (.Call (.Name x p) [.Constant (.str mm) j p2] [] pos)) none pos2) (tS Z (sRaise cI) W) :=
  (ps_raise hc tk (pmk_own F q gC kC rr hg hdb)).imp fun D σ H hl ⟨m, g, ρ, s, r, h⟩ => h m H σ _ _ .refl s rfl r ⟨by rw [hE], rfl⟩
end

/-! ### walks -/
/-- the walk J yields the items of s, as long as the lists it hangs on stand -/
def JRep (K : KW) (T : List (Addr × Str)) (m0 : List Addr) (H0 : Hp) (s : Src) (J : It) : Prop := ∀ (i : Nat) (m : List Addr) (g : GH) (H : Hp), Ext m0 H0 m H → S K T m g H → depsOk g s.deps = true →
  (i = s.items.length → J.stop i H) ∧ (i < s.items.length → J.go i H ∧ ∀ x H', J.yld i H x H' → ∃ d, s.items[i]? = some d ∧ Ext m H m H' ∧ S K T m g H' ∧ DRep K m H' d x)
def tI3 (Z : Row) (iv : IV) (W : WX) : TI := fun σ H R => ∃ m g ρ, S Z.K Z.T m g H ∧ RhoRep Z.K m H ρ σ ∧ Post Z.K Z.T (fun m H => JRep Z.K Z.T m H) (iv ρ g) m H R (WofX Z W σ)
section
variable {X : Cx} {Z : Row} {W : WX} {pos : Pos} {tg a b : Expr} {ea eb : EV}
theorem PI.imp {it : Expr} {w w' : TI} (h : PI X tg it w) (k : ∀ σ H R, w' σ H R → w σ H R) : PI X tg it w' := ⟨fun pins s σ H R I q => h.run pins s σ H R I (k σ H R q)⟩
theorem PI.either {it : Expr} {w1 w2 w' : TI} (h1 : PI X tg it w1) (h2 : PI X tg it w2) (k : ∀ σ H R, w' σ H R → w1 σ H R ∨ w2 σ H R) : PI X tg it w' := ⟨fun pins s σ H R I q => by
  rcases k σ H R q with q | q
  · exact h1.run pins s σ H R I q
  · exact h2.run pins s σ H R I q⟩
theorem jrep_list {K : KW} {T : List (Addr × Str)} {m0 : List Addr} {H0 : Hp} {i0 : Nat} {a0 : Addr} {ds : List D} (h0 : m0[i0]? = some a0) : JRep K T m0 H0 ⟨[(i0, .lst ds)], ds⟩ (Itl K.K a0) := by
  intro i m g H e s hd
  have h1 := depsOk_mem hd List.mem_cons_self
  obtain ⟨o, h2, xs, h3, h4⟩ : ∃ o, g[i0]? = some o ∧ ∃ xs, H a0 = some (.lst xs) ∧ DReps K m H ds xs := by
    obtain ⟨o, h2, h3⟩ := s.at (e.get h0)
    rw [h1] at h2; cases h2
    exact ⟨_, h1, h3⟩
  refine ⟨fun hi => ⟨xs, SqL.of h3, by rw [hi]; show xs.length ≤ ds.length; rw [h4.length]; exact Nat.le_refl _⟩, fun hi => ⟨⟨xs, xs[i]'(by rw [← h4.length]; exact hi), SqL.of h3, by simp⟩, fun x H' y => ?_⟩⟩
  obtain ⟨eH, y⟩ := y
  subst eH
  obtain ⟨d, h5, h6⟩ := h4.get' (y xs (SqL.of h3))
  exact ⟨d, h5, .refl, s, h6⟩
theorem jrep_ro {K : KW} {T : List (Addr × Str)} {m0 : List Addr} {H0 : Hp} {a0 : Addr} {ds : List D} {xs : List V} (h3 : RoL H0 a0 xs) (h4 : DReps K m0 H0 ds xs) : JRep K T m0 H0 ⟨[], ds⟩ (Itl K.K a0) := by
  intro i m g H e s hd
  have h3 : SqL K.K H a0 xs := (roL_keep e.frzs h3).sql
  have h4 := DReps.mono e _ _ h4
  refine ⟨fun hi => ⟨xs, h3, by rw [hi]; show xs.length ≤ ds.length; rw [h4.length]; exact Nat.le_refl _⟩, fun hi => ⟨⟨xs, xs[i]'(by rw [← h4.length]; exact hi), h3, by simp⟩, fun x H' y => ?_⟩⟩
  obtain ⟨eH, y⟩ := y
  subst eH
  obtain ⟨d, h5, h6⟩ := h4.get' (y xs h3)
  exact ⟨d, h5, .refl, s, h6⟩
theorem jrep_tup {K : KW} {T : List (Addr × Str)} {m0 : List Addr} {H0 : Hp} {a0 : Addr} {ds : List D} {xs : List V} (h3 : SqT K.K H0 a0 xs) (h4 : DReps K m0 H0 ds xs) : JRep K T m0 H0 ⟨[], ds⟩ (Itt K.K a0) := by
  intro i m g H e s hd
  have h3 := sqT_keep (K := K) e.tups e.frzs h3
  have h4 := DReps.mono e _ _ h4
  refine ⟨fun hi => ⟨xs, h3, by rw [hi]; show xs.length ≤ ds.length; rw [h4.length]; exact Nat.le_refl _⟩, fun hi => ⟨⟨xs, xs[i]'(by rw [← h4.length]; exact hi), h3, by simp⟩, fun x H' y => ?_⟩⟩
  obtain ⟨eH, y⟩ := y
  subst eH
  obtain ⟨d, h5, h6⟩ := h4.get' (y xs h3)
  exact ⟨d, h5, .refl, s, h6⟩
theorem jrep_rng {K : KW} {T : List (Addr × Str)} {m0 : List Addr} {H0 : Hp} {a b : Int} : JRep K T m0 H0 ⟨[], rangeD a b⟩ (Itr a (b - a).toNat) := by
  intro i m g H e s hd
  have hl : (rangeD a b).length = (b - a).toNat := by unfold rangeD; simp
  refine ⟨fun hi => by show (b - a).toNat ≤ i; rw [hi, ← hl]; exact Nat.le_refl _, fun hi => ⟨by show i < (b - a).toNat; rw [← hl]; exact hi, fun x H' y => ?_⟩⟩
  obtain ⟨eH, y⟩ := y
  subst eH
  subst y
  have hi' : i < (b - a).toNat := by rw [← hl]; exact hi
  refine ⟨.int (a + (i : Nat)), ?_, .refl, s, D.mk_int⟩
  show (rangeD a b)[i]? = _
  unfold rangeD
  rw [List.getElem?_map, List.getElem?_range hi']
  rfl
theorem pi3_seq (hK : Z.K = X.kw) (ha : PE X a (tE Z ea W)) : PI X tg a (tI3 Z (iSeq ea) W) := by
  obtain ⟨K, T, ec⟩ := Z
  obtain rfl : K = X.kw := hK
  refine PI.either (pi_list ha) (pi_tup ha) fun σ H R ⟨m, g, ρ, s, r, h⟩ => ?_
  unfold iSeq at h
  cases e : ea ρ g with
  | bad => rw [e] at h; exact h.elim
  | er x g1 => rw [e] at h; exact .inl ⟨m, g, ρ, s, r, by rw [e]; exact h⟩
  | ok d g1 =>
    rw [e] at h
    simp only [Res.bind_ok] at h
    split at h
    · rename_i ds
      refine .inr ⟨m, g, ρ, s, r, ?_⟩
      rw [e]
      intro m1 H1 v e1 s1 r1
      obtain ⟨p, xs, rfl, h1, h2⟩ := ix_tup_l r1
      exact ⟨p, rfl, ⟨xs, h1⟩, h m1 H1 (Itt X.K p) e1 s1 (jrep_tup h1 h2)⟩
    · rename_i ds
      refine .inl ⟨m, g, ρ, s, r, ?_⟩
      rw [e]
      intro m1 H1 v e1 s1 r1
      have r1' : DRep X.kw m1 H1 (.rol ds) v := r1
      rw [DRep] at r1'
      obtain ⟨p, xs, rfl, h1, h2⟩ := r1'
      exact ⟨p, rfl, ⟨xs, h1.sql⟩, h m1 H1 (Itl X.K p) e1 s1 (jrep_ro h1 h2)⟩
    · split at h
      · rename_i ds e2
        refine .inl ⟨m, g, ρ, s, r, ?_⟩
        rw [e]
        intro m1 H1 v e1 s1 r1
        obtain ⟨p, xs, rfl, hm, h1, h2⟩ := lst_at s1 r1 e2
        exact ⟨p, rfl, ⟨xs, SqL.of h1⟩, h m1 H1 (Itl X.K p) e1 s1 (jrep_list hm)⟩
      · exact h.elim
    · exact h.elim
theorem pi3_rg1 {p : Pos} (hg : Gl X "range") (hm : X.mg "range" = none) (ha : PE X a (tE Z ea W)) (hs : starEach [a] X.env = [(false, eval a X.env)] := by rfl) : PI X tg (.Call (.Name "range" p) [a] [] pos) (tI3 Z (iRg1 ea) W) :=
  PI.imp (pi_range1 hg hm (pa_cons ha pa_nil hs) hs) fun σ H R ⟨m, g, ρ, s, r, h⟩ => ⟨m, g, ρ, s, r, Post.bind h fun m1 H1 d v g1 e1 s1 r1 h1 => by
    split at h1
    · rename_i n
      split at h1
      · rename_i hn
        cases D.int_inv r1
        refine ⟨n, rfl, by omega, by omega, ?_⟩
        have hj := jrep_rng (K := Z.K) (T := Z.T) (m0 := m1) (H0 := H1) (a := 0) (b := n)
        rw [Int.sub_zero] at hj
        exact h1 m1 H1 _ .refl s1 hj
      · exact h1.elim
    · exact h1.elim⟩
theorem pi3_rg2 {p : Pos} (hg : Gl X "range") (hm : X.mg "range" = none) (ha : PE X a (tE Z ea W)) (hb : PE X b (tE Z eb W)) (hs : starEach [a, b] X.env = [(false, eval a X.env), (false, eval b X.env)] := by rfl) (hs2 : starEach [b] X.env = [(false, eval b X.env)] := by rfl) :
    PI X tg (.Call (.Name "range" p) [a, b] [] pos) (tI3 Z (iRg2 ea eb) W) :=
  PI.imp (pi_range2 hg hm (pa_cons ha (pa_cons hb pa_nil hs2) (by rw [hs, hs2])) hs hs2) fun σ H R ⟨m, g, ρ, s, r, h⟩ => ⟨m, g, ρ, s, r, Post.bind h fun m1 H1 d v g1 e1 s1 r1 h1 =>
    ⟨m1, g1, ρ, s1, r.mono e1, Post.bind h1 fun m2 H2 e u g2 e2 s2 r2 h2 => by
      split at h2
      · rename_i n k
        split at h2
        · rename_i hn
          cases D.int_inv r1
          cases D.int_inv r2
          exact ⟨n, k, rfl, ⟨by have := hn.1; omega, by have := hn.1; omega, by have := hn.2; omega, by have := hn.2; omega⟩, h2 m2 H2 _ .refl s2 jrep_rng⟩
        · exact h2.elim
      · exact h2.elim⟩⟩
theorem ps3_for {iv : IV} {t : T3} {sb : SV} {iter : Expr} {body : List Stmt} (hK : Z.K = X.kw) (hp : PassesOwn (model X.prog X.w) X.A X.env X.xe) (hc : X.calm = true) (hi : PI X tg iter (tI3 Z iv W)) (hg : PG X tg (gOf X.K t)) (ht : ∀ i ∈ t.slots, i < X.N.length)
    (hb : PSs X body (tS Z sb W)) (hs : ∀ x, foldedSetIterable iter X.env x = pure x := by intro _; rfl) : PS X (.For tg iter body [] pos) (tS Z (sFor iv t sb) W) := by
  obtain ⟨K, T, ec⟩ := Z
  obtain rfl : K = X.kw := hK
  refine (ps_for hp hc hi hg hb hs).imp fun D σ H hl ⟨m, g, ρ, s, r, h⟩ => ⟨m, g, ρ, s, r, PostS.bind h r fun m1 H1 src J g1 e1 s1 j1 h1 => ?_⟩
  refine ⟨fun i mm σ2 H2 => i ≤ src.items.length ∧ mm = src.items.length - i ∧ ∃ m2 g2 ρ2, Ext m1 H1 m2 H2 ∧ S X.kw T m2 g2 H2 ∧ RhoRep X.kw m2 H2 ρ2 σ2 ∧ σ2.length = σ.length ∧ PostS ⟨X.kw, T, ec⟩ (forL src.deps (stepOf t sb) (src.items.drop i) ρ2 g2) m2 H2 σ.length D W,
    ⟨_, Nat.zero_le _, rfl, m1, g1, ρ, .refl, s1, r.mono e1, rfl, h1⟩, ?_⟩
  rintro i mm σ2 H2 ⟨hi, rfl, m2, g2, ρ2, e2, s2, r2, l2, h2⟩
  by_cases hlt : i < src.items.length
  · right
    rw [List.drop_eq_getElem_cons hlt] at h2
    unfold forL at h2
    split at h2
    · rename_i hd
      obtain ⟨go, yld⟩ := (j1 i m2 g2 H2 e2 s2 hd).2 hlt
      refine ⟨go, fun σ' H' => ∃ m', m' < src.items.length - i ∧ (i + 1 ≤ src.items.length ∧ m' = src.items.length - (i + 1) ∧ ∃ m3 g3 ρ3, Ext m1 H1 m3 H' ∧ S X.kw T m3 g3 H' ∧ RhoRep X.kw m3 H' ρ3 σ' ∧ σ'.length = σ.length ∧ PostS ⟨X.kw, T, ec⟩ (forL src.deps (stepOf t sb) (src.items.drop (i + 1)) ρ3 g3) m3 H' σ.length D W),
        fun σ' H' q => q, fun x H3 y => ?_⟩
      obtain ⟨d, hd1, e3, s3, r3⟩ := yld x H3 y
      have hd2 : src.items[i] = d := by
        rw [List.getElem?_eq_getElem hlt] at hd1
        exact Option.some.inj hd1
      rw [hd2] at h2
      unfold stepOf at h2
      cases et : t.set d ρ2 with
      | none => rw [et] at h2; exact h2.elim
      | some ρ3 =>
        rw [et] at h2
        refine T3.run (r2.mono e3) r3 et (by rw [l2, hl]; exact ht) fun σ3 l3 r4 _ => ?_
        refine ⟨m2, g2, ρ3, s3, r4, ?_⟩
        have again : ∀ ρ4 g4, PostS ⟨X.kw, T, ec⟩ (forL src.deps (stepOf t sb) (src.items.drop (i + 1)) ρ4 g4) m2 H2 σ.length D W → ∀ m4 H4 σ4, Ext m2 H3 m4 H4 → S X.kw T m4 g4 H4 → σ4.length = σ3.length → RhoRep X.kw m4 H4 ρ4 σ4 →
            ∃ m', m' < src.items.length - i ∧ (i + 1 ≤ src.items.length ∧ m' = src.items.length - (i + 1) ∧ ∃ m3 g3 ρ3, Ext m1 H1 m3 H4 ∧ S X.kw T m3 g3 H4 ∧ RhoRep X.kw m3 H4 ρ3 σ4 ∧ σ4.length = σ.length ∧ PostS ⟨X.kw, T, ec⟩ (forL src.deps (stepOf t sb) (src.items.drop (i + 1)) ρ3 g3) m3 H4 σ.length D W) :=
          fun ρ4 g4 q m4 H4 σ4 e4 s4 l4 r4 => ⟨_, by omega, hlt, rfl, m4, g4, ρ4, (e2.trans e3).trans e4, s4, r4, by rw [l4, l3, l2], PostS.ext q (e3.trans e4)⟩
        change PostS ⟨X.kw, T, ec⟩ (sb ρ3 g2) m2 H3 σ3.length _ W
        change PostS ⟨X.kw, T, ec⟩ (match sb ρ3 g2 with
          | .nx ρ' g' => forL src.deps (stepOf t sb) (src.items.drop (i + 1)) ρ' g'
          | .ct ρ' g' => forL src.deps (stepOf t sb) (src.items.drop (i + 1)) ρ' g'
          | .bk ρ' g' => .nx ρ' g'
          | o => o) m2 H2 σ.length D W at h2
        rw [l3, l2]
        cases eb : sb ρ3 g2 with
        | nx ρ4 g4 => rw [eb] at h2; exact fun m4 H4 σ4 e4 s4 l4 r4 => again ρ4 g4 h2 m4 H4 σ4 e4 s4 (by rw [l4, l3, l2]) r4
        | ct ρ4 g4 => rw [eb] at h2; exact fun m4 H4 σ4 e4 s4 l4 r4 => again ρ4 g4 h2 m4 H4 σ4 e4 s4 (by rw [l4, l3, l2]) r4
        | bk ρ4 g4 => rw [eb] at h2; exact PostS.ext (o := .nx ρ4 g4) h2 e3
        | rt d g4 => rw [eb] at h2; exact PostS.ext (o := .rt d g4) h2 e3
        | er x ρ4 g4 => rw [eb] at h2; exact PostS.ext (o := .er x ρ4 g4) h2 e3
        | bad => rw [eb] at h2; exact h2
    · exact h2.elim
  · left
    have hi2 : i = src.items.length := by omega
    subst hi2
    rw [List.drop_length] at h2
    unfold forL at h2
    split at h2
    · rename_i hd
      exact ⟨(j1 _ m2 g2 H2 e2 s2 hd).1 rfl, h2 m2 H2 σ2 .refl s2 l2 r2⟩
    · exact h2.elim
theorem ps3_while (n : Nat) {ta : TV} {sb : SV} {c : Expr} {body : List Stmt} (hp : PassesOwn (model X.prog X.w) X.A X.env X.xe) (hc : PT X c (tT Z ta W)) (hb : PSs X body (tS Z sb W)) : PS X (.While c body [] pos) (tS Z (whileL ta sb n) W) := by
  refine (ps_while hp hc hb).imp fun D σ H hl ⟨m, g, ρ, s, r, h⟩ => ?_
  refine ⟨fun mm σ2 H2 => ∃ m2 g2 ρ2, S Z.K Z.T m2 g2 H2 ∧ RhoRep Z.K m2 H2 ρ2 σ2 ∧ σ2.length = σ.length ∧ PostS Z (whileL ta sb mm ρ2 g2) m2 H2 σ.length D W, ⟨n, m, g, ρ, s, r, rfl, h⟩, ?_⟩
  rintro mm σ2 H2 ⟨m2, g2, ρ2, s2, r2, l2, h2⟩
  cases mm with
  | zero => exact h2.elim
  | succ mm =>
    unfold whileL at h2
    rw [← l2] at h2
    refine ⟨m2, g2, ρ2, s2, r2, PostS.bind h2 r2 fun m3 H3 k v g3 e3 s3 r3 h3 => ?_⟩
    cases r3
    cases k with
    | false =>
      rw [if_neg Bool.false_ne_true] at h3 ⊢
      exact h3 m3 H3 σ2 .refl s3 rfl (r2.mono e3)
    | true =>
      rw [if_pos rfl] at h3 ⊢
      refine ⟨fun σ' H' => ∃ m', m' < mm + 1 ∧ ∃ m2 g2 ρ2, S Z.K Z.T m2 g2 H' ∧ RhoRep Z.K m2 H' ρ2 σ' ∧ σ'.length = σ.length ∧ PostS Z (whileL ta sb m' ρ2 g2) m2 H' σ.length D W, fun σ' H' q => q, m3, g3, ρ2, s3, r2.mono e3, ?_⟩
      have again : ∀ ρ4 g4, PostS Z (whileL ta sb mm ρ4 g4) m3 H3 σ2.length D W → ∀ m4 H4 σ4, Ext m3 H3 m4 H4 → S Z.K Z.T m4 g4 H4 → σ4.length = σ2.length → RhoRep Z.K m4 H4 ρ4 σ4 →
          ∃ m', m' < mm + 1 ∧ ∃ m2 g2 ρ2, S Z.K Z.T m2 g2 H4 ∧ RhoRep Z.K m2 H4 ρ2 σ4 ∧ σ4.length = σ.length ∧ PostS Z (whileL ta sb m' ρ2 g2) m2 H4 σ.length D W :=
        fun ρ4 g4 q m4 H4 σ4 e4 s4 l4 r4 => ⟨mm, Nat.lt_succ_self _, m4, g4, ρ4, s4, r4, by rw [l4, l2], by rw [← l2]; exact PostS.ext q e4⟩
      cases eb : sb ρ2 g3 with
      | nx ρ4 g4 => rw [eb] at h3; exact again ρ4 g4 h3
      | ct ρ4 g4 => rw [eb] at h3; exact again ρ4 g4 h3
      | bk ρ4 g4 => rw [eb] at h3; exact h3
      | rt d g4 => rw [eb] at h3; exact h3
      | er x ρ4 g4 => rw [eb] at h3; exact h3
      | bad => rw [eb] at h3; exact h3
end
end L3

/-! L3f: comprehensions, stores by place, defs. -/
namespace L3
open PySem PySem.Spec PyProof.Rows L2

section
variable {K : KW} {T : List (Addr × Str)} {m m' : List Addr} {H H' : Hp} {g : GH}
/-- a list that is tracked, but not ours yet, becomes ours -/
theorem S.adopt (s : S K T m g H) {p : Addr} {ds : List D} {xs : List V} (hp : H p = some (.lst xs)) (np : p ∉ m) (r : DReps K m H ds xs) : S K T (m ++ [p]) (g ++ [.lst ds]) H := by
  have hm : ∀ (i : Nat) a, m[i]? = some a → (m ++ [p])[i]? = some a := fun i a h => by
    rw [List.getElem?_append_left (List.getElem?_eq_some_iff.mp h).1]; exact h
  refine ⟨?_, by simp [s.len], fun i a q h1 h2 => ?_, s.tab⟩
  · rw [List.nodup_append]
    refine ⟨s.nod, by simp, fun a ha b hb => ?_⟩
    simp at hb
    subst hb
    rintro rfl
    exact np ha
  · by_cases hi : i < m.length
    · rw [List.getElem?_append_left hi] at h1
      rw [List.getElem?_append_left (by rw [← s.len]; exact hi)] at h2
      exact (s.obj i a q h1 h2).mono0 hm (fun _ _ h => h) (fun _ _ _ h => h) fun _ h => h
    · have hi2 : i = m.length := by
        have := (List.getElem?_eq_some_iff.mp h1).1
        simp at this
        omega
      subst hi2
      have e1 : p = a := by simpa using h1
      have e2 : GO.lst ds = q := by rw [s.len] at h2; simpa using h2
      rw [← e1, ← e2]
      exact ⟨xs, hp, DReps.mono0 hm (fun _ _ h => h) (fun _ _ _ h => h) _ _ r⟩
/-- a list that is tracked, but not ours, is changed -/
theorem S.other (s : S K T m g H) {p : Addr} {xs ys : List V} (hp : H p = some (.lst xs)) (np : p ∉ m) : S K T m g (upd H p (.lst ys)) ∧ (∀ d v, DRep K m H d v → DRep K m (upd H p (.lst ys)) d v) ∧ ∀ ds vs, DReps K m H ds vs → DReps K m (upd H p (.lst ys)) ds vs := by
  have ht : ∀ b zs, H b = some (.tup zs) → upd H p (.lst ys) b = some (.tup zs) := fun b zs h => by rw [upd_ne]; exact h; rintro rfl; rw [hp] at h; cases h
  have hf : ∀ b o u, H b = some (.frz o u) → upd H p (.lst ys) b = some (.frz o u) := fun b o u h => by rw [upd_ne]; exact h; rintro rfl; rw [hp] at h; cases h
  refine ⟨⟨s.nod, s.len, fun i a o h1 h2 => ?_, tabs_keep s.tab fun b o h n => ?_⟩, DRep.mono0 (fun _ _ h => h) ht hf, DReps.mono0 (fun _ _ h => h) ht hf⟩
  · refine (s.obj i a o h1 h2).mono0 (fun _ _ h => h) ht hf fun u h => ?_
    rw [upd_ne]
    · exact h
    · rintro rfl
      exact np (List.mem_of_getElem? h1)
  · rw [upd_ne]
    · exact h
    · rintro rfl
      rw [hp] at h
      cases h
      exact n trivial
theorem RhoRep.wipe {ρ : Rho} {σ : L2.St} (r : RhoRep K m H ρ σ) : ∀ vs : List Nat, RhoRep K m H (wipeR ρ vs) (L2.wipe σ vs)
  | [] => r
  | v :: vs => fun i d h => by
    have ih := RhoRep.wipe r vs
    unfold wipeR at h
    unfold L2.wipe
    by_cases hi : v = i
    · subst hi
      by_cases hv : v < (wipeR ρ vs).length
      · rw [List.getElem?_set_self hv] at h; cases h
      · rw [List.getElem?_eq_none (by simpa using hv)] at h; cases h
    · rw [List.getElem?_set_ne hi] at h ⊢
      exact ih i d h
end

theorem wipe_get (σ : L2.St) (i : Nat) : ∀ vs : List Nat, (L2.wipe σ vs)[i]? = if i ∈ vs ∧ i < σ.length then some none else σ[i]?
  | [] => by simp [L2.wipe]
  | v :: vs => by
    unfold L2.wipe
    by_cases hv : v = i
    · subst hv
      by_cases hl : v < σ.length
      · rw [List.getElem?_set_self (by rw [L2.wipe_length]; exact hl), if_pos ⟨List.mem_cons_self, hl⟩]
      · rw [List.getElem?_eq_none (by rw [List.length_set, L2.wipe_length]; omega), if_neg (fun z => hl z.2), List.getElem?_eq_none (by omega)]
    · rw [List.getElem?_set_ne hv, wipe_get σ i vs]
      have : i ∈ v :: vs ↔ i ∈ vs := by
        rw [List.mem_cons]
        exact ⟨fun z => z.resolve_left (fun e => hv e.symm), .inr⟩
      simp only [this]
theorem wipe_idem (σ : L2.St) (vs : List Nat) : L2.wipe (L2.wipe σ vs) vs = L2.wipe σ vs := by
  refine List.ext_getElem? fun i => ?_
  rw [wipe_get, wipe_get, L2.wipe_length]
  by_cases h : i ∈ vs ∧ i < σ.length
  · rw [if_pos h, if_pos h]
  · rw [if_neg h, if_neg h]
section
variable {X : Cx} {Z : Row} {W : WX} {pos : Pos} {tg iter elt : Expr} {ee : EV} {tt : TV} {iv : IV} {t : T3} {ifs : List Expr} {scope : Scope} {own : List (Str × Nat)}
theorem noEr_post {α β : Type} {R : List Addr → Hp → α → β → Prop} {r : Res α} {m : List Addr} {H : Hp} {Q : β → Hp → Prop} {W1 W2 : Exc → List Addr → Hp → Prop} (h : Post Z.K Z.T R (noEr r) m H Q W1) : Post Z.K Z.T R r m H Q W2 := by
  cases r with
  | ok d g => exact h
  | er e g => exact h.elim
  | bad => exact h
def eCompG (fin : List D → GH → Res D) (src : IV) (t : T3) (test : TV) (elt : EV) (own : List Nat) : EV := fun ρ g => (src ρ g).bind fun s g1 => if s.items.length < 16777216 then (compL s.deps t test elt (wipeR ρ own) s.items g1).bind fin else .bad
/-- what the block of a comprehension asks, from the L3 term -/
theorem lcG {σ : L2.St} {H : Hp} {Q Q' : VK} {fin : List D → GH → Res D} (hl : σ.length = X.N.length) (hs : ∀ i ∈ t.slots, i < X.N.length) (ho : ∀ i ∈ t.slots, i ∈ own.map (·.2))
    (hfin : ∀ m1 H1 m2 H2 g2 D0 acc accV, S X.kw Z.T m2 g2 H2 → Ext m1 H1 m2 H2 → H1 D0 = none → H2 D0 = some (.lst accV) → D0 ∉ m2 → DReps X.kw m2 H2 acc accV → Post X.kw Z.T (RD ⟨X.kw, Z.T, Z.ec⟩) (fin acc g2) m1 H1 Q (WofX ⟨X.kw, Z.T, Z.ec⟩ W σ) → Q' (.ref D0) H2)
    (h : tE ⟨X.kw, Z.T, Z.ec⟩ (eCompG fin iv t tt ee (own.map (·.2))) W σ H Q) :
    tLc (tI3 ⟨X.kw, Z.T, Z.ec⟩ iv W) (gOf X.K t) (tT ⟨X.kw, Z.T, Z.ec⟩ tt (fun _ _ _ _ => False)) (tE ⟨X.kw, Z.T, Z.ec⟩ ee (fun _ _ _ _ => False)) (own.map (·.2)) σ H Q' := by
  obtain ⟨m, g, ρ, s, r, h⟩ := h
  unfold eCompG at h
  refine ⟨m, g, ρ, s, r, Post.bind h fun m1 H1 src J g1 e1 s1 j1 h1 => ?_⟩
  intro D0 hD
  split at h1
  · rename_i hlen
    generalize hvs : own.map (·.2) = vs at *
    -- from turn i on: what is made so far is acc
    refine ⟨fun i mm H2 => i ≤ src.items.length ∧ mm = src.items.length - i ∧ ∃ m2 g2 acc accV, Ext m1 H1 m2 H2 ∧ S X.kw Z.T m2 g2 H2 ∧ H2 D0 = some (.lst accV) ∧ D0 ∉ m2 ∧ DReps X.kw m2 H2 acc accV ∧ acc.length ≤ i ∧
      Post X.kw Z.T (RD ⟨X.kw, Z.T, Z.ec⟩) ((compL src.deps t tt ee (wipeR ρ vs) (src.items.drop i) g2).bind fun ys g3 => fin (acc ++ ys) g3) m1 H1 Q (WofX ⟨X.kw, Z.T, Z.ec⟩ W σ), ⟨_, Nat.zero_le _, rfl, ?_⟩, ?_⟩
    · obtain ⟨e2, s2⟩ := s1.laid (u := .lst []) hD
      exact ⟨m1, g1, [], [], e2, s2, upd_same, s1.none_mem hD, by rw [DReps], Nat.le_refl _, h1⟩
    rintro i mm H2 ⟨hi, rfl, m2, g2, acc, accV, e2, s2, hD2, nD, ra, la, h2⟩
    by_cases hlt : i < src.items.length
    · right
      rw [List.drop_eq_getElem_cons hlt] at h2
      unfold compL at h2
      split at h2
      · rename_i hd
        obtain ⟨go, yld⟩ := (j1 i m2 g2 H2 e2 s2 hd).2 hlt
        refine ⟨go, fun H' => ∃ m', m' < src.items.length - i ∧ (i + 1 ≤ src.items.length ∧ m' = src.items.length - (i + 1) ∧ ∃ m2 g2 acc accV, Ext m1 H1 m2 H' ∧ S X.kw Z.T m2 g2 H' ∧ H' D0 = some (.lst accV) ∧ D0 ∉ m2 ∧ DReps X.kw m2 H' acc accV ∧ acc.length ≤ i + 1 ∧
          Post X.kw Z.T (RD ⟨X.kw, Z.T, Z.ec⟩) ((compL src.deps t tt ee (wipeR ρ vs) (src.items.drop (i + 1)) g2).bind fun ys g3 => fin (acc ++ ys) g3) m1 H1 Q (WofX ⟨X.kw, Z.T, Z.ec⟩ W σ)), fun H' q => q, fun x H3 y => ?_⟩
        obtain ⟨d, hd1, e3, s3, r3⟩ := yld x H3 y
        have hd2 : src.items[i] = d := by
          rw [List.getElem?_eq_getElem hlt] at hd1
          exact Option.some.inj hd1
        rw [hd2] at h2
        have hD3 : H3 D0 = some (.lst accV) := e3.keep _ _ hD2 nD (fun ps z => by cases z)
        have rr : RhoRep X.kw m2 H3 (wipeR ρ vs) (L2.wipe σ vs) := (((r.mono e1).mono e2).mono e3).wipe vs
        cases et : t.set d (wipeR ρ vs) with
        | none => rw [et] at h2; exact h2.elim
        | some ρ3 =>
          rw [et] at h2
          refine T3.run rr r3 et (by rw [L2.wipe_length, hl]; exact hs) fun σ3 l3 r4 hw => ⟨?_, ?_⟩
          · exact (hw vs ho).trans (wipe_idem σ vs)
          refine ⟨m2, g2, ρ3, s3, r4, ?_⟩
          simp only at h2
          cases ett : tt ρ3 g2 with
          | bad => rw [ett] at h2; exact h2.elim
          | er x g3 => rw [ett] at h2; exact h2.elim
          | ok b g3 =>
            rw [ett] at h2
            intro m4 H4 b' e4 s4 rb
            cases rb
            have hD4 : H4 D0 = some (.lst accV) := e4.keep _ _ hD3 nD (fun ps z => by cases z)
            have nD4 : D0 ∉ m4 := e4.mem hD3 nD (fun ps z => by cases z)
            have ex4 : Ext m1 H1 m4 H4 := (e2.trans e3).trans e4
            cases b with
            | false =>
              rw [if_neg Bool.false_ne_true]
              exact ⟨_, by omega, hlt, rfl, m4, g3, acc, accV, ex4, s4, hD4, nD4, DReps.mono e4 _ _ (DReps.mono e3 _ _ ra), by omega, h2⟩
            | true =>
              rw [if_pos rfl]
              refine ⟨m4, g3, ρ3, s4, r4.mono e4, ?_⟩
              simp only [noEr, Res.bind_ok, if_true] at h2
              cases eee : ee ρ3 g3 with
              | bad => rw [eee] at h2; exact h2.elim
              | er x g3 => rw [eee] at h2; exact h2.elim
              | ok y g5 =>
                rw [eee] at h2
                intro m5 H5 yv e5 s5 ry
                have hD5 : H5 D0 = some (.lst accV) := e5.keep _ _ hD4 nD4 (fun ps z => by cases z)
                have nD5 : D0 ∉ m5 := e5.mem hD4 nD4 (fun ps z => by cases z)
                have ra5 := DReps.mono e5 _ _ (DReps.mono e4 _ _ (DReps.mono e3 _ _ ra))
                obtain ⟨s6, k1, k2⟩ := s5.other (ys := accV ++ [yv]) hD5 nD5
                refine ⟨accV, hD5, by rw [← ra.length, sizeLine_eq]; omega, _, by omega, hlt, rfl, m5, g5, acc ++ [y], accV ++ [yv], ?_, s6, upd_same, nD5, (k2 _ _ ra5).append (by rw [DReps]; exact ⟨yv, [], rfl, k1 _ _ ry, by rw [DReps]⟩), by simp; omega, ?_⟩
                · have ex5 := ex4.trans e5
                  refine ⟨ex5.pre, fun b xs h => ?_, fun b o u h => ?_, fun b o h n nt => ?_, fun b h o q => ?_⟩
                  · rw [upd_ne]; exact ex5.tups b xs h; rintro rfl; rw [hD] at h; cases h
                  · rw [upd_ne]; exact ex5.frzs b o u h; rintro rfl; rw [hD] at h; cases h
                  · rw [upd_ne]; exact ex5.keep b o h n nt; rintro rfl; rw [hD] at h; cases h
                  · by_cases hb : b = D0
                    · rw [hb, hD] at q; cases q
                    · exact ex5.dom b (fun o' q' => h o' (by rw [upd_ne hb]; exact q')) o q
                · simp only [noEr, Res.bind_ok] at h2
                  cases ec : compL src.deps t tt ee (wipeR ρ vs) (src.items.drop (i + 1)) g5 with
                  | bad => rw [ec] at h2; exact h2
                  | er x g6 => rw [ec] at h2; exact h2
                  | ok ys g6 =>
                    rw [ec] at h2
                    simp only [Res.bind_ok] at h2 ⊢
                    rw [List.append_assoc]
                    exact h2
      · exact h2.elim
    · left
      have hi2 : i = src.items.length := by omega
      subst hi2
      rw [List.drop_length] at h2
      unfold compL at h2
      split at h2
      · rename_i hd
        refine ⟨(j1 _ m2 g2 H2 e2 s2 hd).1 rfl, ?_⟩
        simp only [Res.bind_ok, List.append_nil] at h2
        exact hfin m1 H1 m2 H2 g2 D0 acc accV s2 e2 hD hD2 nD ra h2
      · exact h2.elim
  · exact h1.elim
theorem lc3 {σ : L2.St} {H : Hp} {Q : VK} (hl : σ.length = X.N.length) (hs : ∀ i ∈ t.slots, i < X.N.length) (ho : ∀ i ∈ t.slots, i ∈ own.map (·.2)) (h : tE ⟨X.kw, Z.T, Z.ec⟩ (eComp iv t tt ee (own.map (·.2))) W σ H Q) :
    tLc (tI3 ⟨X.kw, Z.T, Z.ec⟩ iv W) (gOf X.K t) (tT ⟨X.kw, Z.T, Z.ec⟩ tt (fun _ _ _ _ => False)) (tE ⟨X.kw, Z.T, Z.ec⟩ ee (fun _ _ _ _ => False)) (own.map (·.2)) σ H Q := by
  refine lcG (Z := Z) (W := W) (Q := Q) (Q' := Q) (fin := fun ys g2 => Res.ok (D.ref g2.length) (g2 ++ [GO.lst ys])) hl hs ho (fun m1 H1 m2 H2 g2 D0 acc accV s2 e2 hD hD2 nD ra h2 => ?_) h
  refine h2 (m2 ++ [D0]) H2 (.ref D0) ?_ (s2.adopt hD2 nD ra) ?_
  · obtain ⟨t', et, ht⟩ := e2.pre
    refine ⟨⟨t' ++ [D0], by rw [et, List.append_assoc], fun a ha => ?_⟩, e2.tups, e2.frzs, e2.keep, e2.dom⟩
    rcases List.mem_append.mp ha with ha | ha
    · exact ht a ha
    · simp at ha; rw [ha]; exact fr0_none hD
  · show DRep _ _ _ (.ref g2.length) _
    rw [DRep]
    exact ⟨D0, rfl, by rw [← s2.len]; simp⟩
theorem pts3_nil {X : Cx} : PTs X [] (tT Z tYes3 W) := ⟨fun pins s σ H Q I ⟨m, g, ρ, st, r, h⟩ => pts_nil.run pins s σ H Q I (Post.here (d := true) h st rfl)⟩
theorem pts3_one {X : Cx} {c : Expr} (h : PT X c (tT Z tt W)) : PTs X [c] (tT Z tt W) := pts_one h
abbrev WN : WX := fun _ _ _ _ => False
theorem pe3_lc (hK : Z.K = X.kw) (hc : X.calm = true) (hN : X.N.Nodup) (hi : PI X tg iter (tI3 Z iv W)) (ok : BlkOk X.N X.env.scope scope own) (hs : ∀ i ∈ t.slots, i < X.N.length) (ho : ∀ i ∈ t.slots, i ∈ own.map (·.2))
    (hg : ∀ (s : Shared) (H : Hp) (C : Addr) (cl : List (Str × Addr)) (fp : List Addr), PG (X.blk s H scope (compEnvC scope cl C X.env) fp) tg (gOf X.K t))
    (ht : ∀ (s : Shared) (H : Hp) (C : Addr) (cl : List (Str × Addr)) (fp : List Addr), PTs (X.blk s H scope (compEnvC scope cl C X.env) fp) ifs (tT Z tt WN))
    (he : ∀ (s : Shared) (H : Hp) (C : Addr) (cl : List (Str × Addr)) (fp : List Addr), PE (X.blk s H scope (compEnvC scope cl C X.env) fp) elt (tE Z ee WN)) (hf : ∀ x, foldedSetIterable iter X.env x = pure x := by intro _; rfl) :
    PE X (.ListComp elt [⟨tg, iter, ifs, 0⟩] scope pos) (tE Z (eComp iv t tt ee (own.map (·.2))) W) := by
  obtain ⟨K, T, ec⟩ := Z
  obtain rfl : K = X.kw := hK
  exact ⟨fun pins s σ H Q I q => (pe_lc hc hN hi ok hg ht he hf).run pins s σ H Q I (lc3 (Z := ⟨X.kw, T, ec⟩) I.len hs ho q)⟩
theorem ps3_setLc {i : Nat} {y : Str} {py spos : Pos} (hK : Z.K = X.kw) (hc : X.calm = true) (hN : X.N.Nodup) (hy : X.N[i]? = some y) (hyl : X.env.scope.names.lookup y = some .local)
    (hsw : swapsWith (.ListComp elt [⟨tg, iter, ifs, 0⟩] scope pos) (some (.Name y py)) spos.line X.env = pure true) (hi : PI X tg iter (tI3 Z iv W)) (ok : BlkOk X.N X.env.scope scope own) (hs : ∀ i ∈ t.slots, i < X.N.length) (ho : ∀ i ∈ t.slots, i ∈ own.map (·.2))
    (hg : ∀ (s : Shared) (H : Hp) (C : Addr) (cl : List (Str × Addr)) (fp : List Addr), PG (X.blk s H scope (compEnvC scope cl C X.env) fp) tg (gOf X.K t))
    (ht : ∀ (s : Shared) (H : Hp) (C : Addr) (cl : List (Str × Addr)) (fp : List Addr), PTs (X.blk s H scope (compEnvC scope cl C X.env) fp) ifs (tT Z tt WN))
    (he : ∀ (s : Shared) (H : Hp) (C : Addr) (cl : List (Str × Addr)) (fp : List Addr), PE (X.blk s H scope (compEnvC scope cl C X.env) fp) elt (tE Z ee WN)) (hf : ∀ x, foldedSetIterable iter X.env x = pure x := by intro _; rfl) :
    PS X (.Assign [.Name y py] (.ListComp elt [⟨tg, iter, ifs, 0⟩] scope pos) spos) (tS Z (sAsg (.one i) (eComp iv t tt ee (own.map (·.2)))) W) := by
  obtain ⟨K, T, ec⟩ := Z
  obtain rfl : K = X.kw := hK
  refine (ps_setLc hc hN hy hyl hsw hi ok hg ht he hf).imp fun D σ H hl ⟨m, g, ρ, s, r, h⟩ => ?_
  show tLc _ _ _ _ _ σ H fun x H1 => gName i x σ H1 D.nx
  refine lc3 (Z := ⟨X.kw, T, ec⟩) hl hs ho ⟨m, g, ρ, s, r, PostS.bind h r fun m1 H1 d v g1 e1 s1 r1 h1 => ?_⟩
  exact h1 m1 H1 _ .refl s1 (by simp) ((r.mono e1).set (by rw [hl]; exact (List.getElem?_eq_some_iff.mp hy).1) r1)
/-! ### xs[i] = e -/
def opSet (d i e : D) (g : GH) : Option GH := match d, i with
  | .ref k, .int j => match g[k]? with
    | some (.lst ds) => (ixN ds.length j).map fun n => g.set k (.lst (ds.set n e))
    | _ => none
  | _, _ => none
def sSetIx (fs : D → D → D → GH → Option GH) (o i e : EV) : SV := fun ρ g => bindS (e ρ g) ρ fun x g1 => bindS (o ρ g1) ρ fun d g2 => bindS (i ρ g2) ρ fun j g3 => match fs d j x g3 with
  | some g4 => .nx ρ g4
  | none => .bad
def rSet3 (Z : Row) (f : D → D → D → GH → Option GH) : V → V → V → Hp → (Hp → Prop) → Prop := fun o i v H Q => ∃ m g d j x, S Z.K Z.T m g H ∧ DRep Z.K m H d o ∧ DRep Z.K m H j i ∧ DRep Z.K m H x v ∧
  match f d j x g with
  | some g' => ∀ m' H', Ext m H m' H' → S Z.K Z.T m' g' H' → Q H'
  | none => False
theorem set_3 (hK : Z.K = X.kw) : PSet X (rSet3 Z opSet) := by
  obtain ⟨K, T, ec⟩ := Z
  obtain rfl : K = X.kw := hK
  intro pins st σ H o i v ov iv u Q I ro ri rv ⟨m, g, d, j, x, s, hd, hj, hx, h⟩
  unfold opSet at h
  split at h
  · rename_i g' e0
    split at e0
    · cases D.int_inv hj
      split at e0
      · rename_i ds e1
        obtain ⟨p, xs, rfl, hm, h3, h4⟩ := lst_at s hd e1
        cases e2 : ixN ds.length _ with
        | none => rw [e2] at e0; cases e0
        | some n =>
          rw [e2] at e0
          cases e0
          refine set_list pins st σ H _ _ v ov iv u Q I ro ri rv ⟨p, xs, _, n, rfl, rfl, h3, by rw [← h4.length]; exact e2, ?_⟩
          have ex := s.putE (u := .lst (xs.set n v)) hm h3 trivial
          obtain ⟨e6, s6⟩ := s.put (o := .lst (ds.set n x)) hm h3 trivial ⟨_, upd_same, DReps.mono ex _ _ (h4.set n hx)⟩
          exact h m _ e6 s6
      · cases e0
    · cases e0
  · exact h.elim
theorem ps3_setIx {o i e : Expr} {eo ei ev : EV} {tpos : Pos} {fs : D → D → D → GH → Option GH} (he : PE X e (tE Z ev W)) (hpl : PG X (.Subscript o i tpos) (gSub (tE Z eo W) (tE Z ei W) (rSet3 Z fs)))
    (hs : swapsWithSole [.Subscript o i tpos] e pos.line X.env = pure false := by rfl) (hw : swappedStores [.Subscript o i tpos] e X.env = pure none := by rfl) (h1 : (assignEach [.Subscript o i tpos] X.env).map (·.2) = [assign (.Subscript o i tpos) X.env] := by rfl) :
    PS X (.Assign [.Subscript o i tpos] e pos) (tS Z (sSetIx fs eo ei ev) W) :=
  (ps_asg he hpl hs hw h1).imp fun D σ H hl ⟨m, g, ρ, s, r, h⟩ => ⟨m, g, ρ, s, r, PostS.bind h r fun m1 H1 x v g1 e1 s1 r1 h1 =>
    ⟨m1, g1, ρ, s1, r.mono e1, PostS.bind h1 (r.mono e1) fun m2 H2 d u g2 e2 s2 r2 h2 => ⟨m2, g2, ρ, s2, (r.mono e1).mono e2, PostS.bind h2 ((r.mono e1).mono e2) fun m3 H3 j w g3 e3 s3 r3 h3 =>
      ⟨m3, g3, d, j, x, s3, r2.mono e3, r3, (r1.mono e2).mono e3, by
        split at h3
        · rename_i g4 e4
          exact fun m' H' e5 s5 => h3 m' H' σ e5 s5 rfl ((((r.mono e1).mono e2).mono e3).mono e5)
        · exact h3.elim⟩⟩⟩⟩
end

/-! ### defs -/
theorem fn3 {P : Program} {w : World} {K : PySem.W.Frag} {mg : Str → Option Value} {base : Heap} {Z : Row} {x qual : Str} {st : Stmt} {f : Addr} {fd : FuncData} {N ps : List Str} {k n : Nat} {b : SV} (F : Fun K x qual st f fd) (Sc : FnScope N ps (defScope st)) (hn : ps.length = n)
    (hbody : ∀ (cdv : Value) (A : Around) (outer : List Env) (s : Shared) (H : Hp) (E : XK), Room k (A.deeper (envOfC qual (defScope st) s.heap.objs.size f cdv)) →
      PSs (cxOf (L2.CX P w) P w K mg base N qual (defScope st) f cdv A outer s H E) (defBody st) (tS Z b (fun cls d _ H => E cls d H))) :
    FnOk P w K mg base (L2.CX P w) (k + 1) f fd ps (spOf Z n (runB b N.length)) := by
  refine F.okX Sc (fun vs H Q E h => by rw [h.1, hn]) fun cdv A outer s H vs Q E hr ⟨hl, m, g, ds, st, r, h⟩ => ⟨_, hbody cdv A outer s H E hr, m, g, _, st, RhoRep.start r, ?_⟩
  unfold runB at h
  have hlen : (start N vs).length = N.length := by
    have := Sc.pre
    have h2 : vs.length ≤ N.length := by
      rw [hl, ← hn, ← congrArg List.length Sc.pre, List.length_take]
      exact Nat.min_le_right _ _
    unfold L2.start
    simp
    omega
  rw [hlen]
  split at h
  · rename_i ρ' g' e
    rw [e]
    exact fun m' H' σ' e1 s1 _ _ => h m' H' .non e1 s1 D.mk_non
  · rename_i d g' e
    rw [e]
    exact fun m' H' v e1 s1 r1 => h m' H' v e1 s1 r1
  · rename_i x ρ' g' e
    rw [e]
    exact fun m' H' σ' cls d e1 s1 _ _ er => h m' H' e1 s1 cls d er
  · exact h.elim
end L3

/-! L3g: sets of ints, sorted. -/
namespace L3
open PySem PySem.Spec PyProof.Rows L2

/-- k put into a rising list -/
def insI (k : Int) : List Int → List Int
  | [] => [k]
  | j :: js => if k < j then k :: j :: js else if k = j then j :: js else j :: insI k js
def canon (is : List Int) : List Int := is.foldr insI []
theorem mem_insI (k x : Int) : ∀ js : List Int, x ∈ insI k js ↔ x = k ∨ x ∈ js
  | [] => by simp [insI]
  | j :: js => by
    unfold insI
    split
    · simp
    · split
      · rename_i h; subst h; simp
      · simp only [List.mem_cons, mem_insI k x js]
        constructor
        · rintro (h | h | h)
          · exact .inr (.inl h)
          · exact .inl h
          · exact .inr (.inr h)
        · rintro (h | h | h)
          · exact .inr (.inl h)
          · exact .inl h
          · exact .inr (.inr h)
theorem pw_insI (k : Int) : ∀ js : List Int, js.Pairwise (· < ·) → (insI k js).Pairwise (· < ·)
  | [], _ => by simp [insI]
  | j :: js, h => by
    obtain ⟨h1, h2⟩ := List.pairwise_cons.mp h
    unfold insI
    split
    · rename_i hk
      refine List.pairwise_cons.mpr ⟨fun x hx => ?_, h⟩
      rcases List.mem_cons.mp hx with rfl | hx
      · exact hk
      · exact Int.lt_trans hk (h1 x hx)
    · split
      · exact h
      · refine List.pairwise_cons.mpr ⟨fun x hx => ?_, pw_insI k js h2⟩
        rcases (mem_insI k x js).mp hx with rfl | hx
        · omega
        · exact h1 x hx
theorem mem_canon (x : Int) : ∀ is : List Int, x ∈ canon is ↔ x ∈ is
  | [] => by simp [canon]
  | i :: is => by
    show x ∈ insI i (canon is) ↔ _
    rw [mem_insI, mem_canon x is, List.mem_cons]
theorem pw_canon : ∀ is : List Int, (canon is).Pairwise (· < ·)
  | [] => by simp [canon]
  | i :: is => pw_insI i _ (pw_canon is)
/-- two rising lists with the same members are one -/
theorem rising_one : ∀ (as bs : List Int), as.Pairwise (· < ·) → bs.Pairwise (· < ·) → (∀ x, x ∈ as ↔ x ∈ bs) → as = bs
  | [], [], _, _, _ => rfl
  | [], b :: bs, _, _, h => by have := (h b).mpr List.mem_cons_self; cases this
  | a :: as, [], _, _, h => by have := (h a).mp List.mem_cons_self; cases this
  | a :: as, b :: bs, h1, h2, h => by
    obtain ⟨p1, p2⟩ := List.pairwise_cons.mp h1
    obtain ⟨q1, q2⟩ := List.pairwise_cons.mp h2
    have hab : a = b := by
      rcases List.mem_cons.mp ((h a).mp List.mem_cons_self) with e | e
      · exact e
      · rcases List.mem_cons.mp ((h b).mpr List.mem_cons_self) with e' | e'
        · exact e'.symm
        · have := q1 a e
          have := p1 b e'
          omega
    subst hab
    rw [rising_one as bs p2 q2 fun x => ?_]
    constructor
    · intro hx
      rcases List.mem_cons.mp ((h x).mp (List.mem_cons_of_mem _ hx)) with e | e
      · have := p1 x hx; omega
      · exact e
    · intro hx
      rcases List.mem_cons.mp ((h x).mpr (List.mem_cons_of_mem _ hx)) with e | e
      · have := q1 x hx; omega
      · exact e
theorem nodup_len : ∀ (as bs : List Int), as.Nodup → bs.Nodup → (∀ x, x ∈ as ↔ x ∈ bs) → as.length = bs.length := fun as bs h1 h2 h => by
  have : as.Perm bs := by
    rw [List.perm_ext_iff_of_nodup h1 h2]
    exact h
  exact this.length_eq
theorem nodup_of_lt {as : List Int} (h : as.Pairwise (· < ·)) : as.Nodup := h.imp fun h => by omega

def fSet : FN := fun xs g => match xs with
  | [.tup ds] => match intsOf ds with
    | some is => if is.length < 4000 then some (.ref g.length, g ++ [.iset (canon is)]) else none
    | none => none
  | _ => none
def fSorted : FN := fun xs g => match xs with
  | [.ref i] => match g[i]? with
    | some (.iset ks) => if ks.length < 64 then some (.ref g.length, g ++ [.lst (ks.map .int)]) else none
    | _ => none
  | _ => none
section
variable {X : Cx} {Z : Row}
theorem setR_count {w : World} {h : Heap} {a : Addr} {is : List Int} {c : Nat} (R : SetR w h a (fun j => decide (j ∈ is)) c) : c = (canon is).length := by
  obtain ⟨o, es, ep, t, _, _, _, _, hn, hs, _, _, hc, _⟩ := R
  rw [← hc]
  have e := nodup_len (es.toList.map keyOf) (canon is) hn (nodup_of_lt (pw_canon is)) fun x => by
    rw [mem_canon, ← hs x]
    simp
  rw [List.length_map, Array.length_toList] at e
  exact e
theorem iset_new {m : List Addr} {g : GH} {H : Hp} {ks : List Int} {p : Addr} {K : KW} {T : List (Addr × Str)} (s : S K T m g H) (hp : H p = none) (hk : ks.Pairwise (· < ·)) {u : HO} (hu : u = SetO K.w p (fun j => decide (j ∈ ks)) ks.length) :
    Ext m H (m ++ [p]) (upd H p u) ∧ S K T (m ++ [p]) (g ++ [.iset ks]) (upd H p u) ∧ DRep K (m ++ [p]) (upd H p u) (.ref g.length) (.ref p) := by
  obtain ⟨e, s2⟩ := s.new (u := u) (o := .iset ks) hp ⟨by rw [upd_same, hu], hk⟩
  refine ⟨e, s2, ?_⟩
  rw [DRep]
  exact ⟨p, rfl, by rw [← s.len]; simp⟩
theorem c_set (hK : Z.K = X.kw) (hc : X.calm = true) : CallR X (.type "set") (rN Z fSet) := by
  obtain ⟨K, T, ec⟩ := Z
  obtain rfl : K = X.kw := hK
  intro pins st σ H xs us Q I rx ⟨m, g, ds, s, hd, h⟩
  unfold fSet at h
  split at h
  · obtain ⟨v, rfl, h1⟩ := reps1 hd
    obtain ⟨p, ys, rfl, h1, h2⟩ := ix_tup_l h1
    split at h
    · rename_i is e1
      split at h
      · rename_i hlen
        rw [ints_reps h2 e1] at h1
        obtain ⟨its, rv, hl, _⟩ := I.tuple h1
        rw [Vals.ref1 rx]
        refine call_set_tupI is (I.ok.hd hc) (show st.heap.IsTuple p its.toArray from hl) (intsAre_of rv) (by have : scanBound = 4096 := rfl; omega) fun h' tk c R hcl k => ?_
        have hcc := setR_count R
        subst hcc
        have ok : ObjOk X.prog X.w (upd H st.heap.objs.size (SetO X.w st.heap.objs.size (fun j => decide (j ∈ is)) (canon is).length)) h' st.heap.objs.size (SetO X.w st.heap.objs.size (fun j => decide (j ∈ is)) (canon is).length) := setO_new R
        have hn := I.hok.fresh (Nat.le_refl st.heap.objs.size)
        have eS : (fun j => decide (j ∈ is)) = (fun j => decide (j ∈ canon is)) := by
          funext j
          exact decide_eq_decide.mpr (mem_canon j is).symm
        obtain ⟨e2, s2, r2⟩ := iset_new s hn (pw_canon is) (u := SetO X.w st.heap.objs.size (fun j => decide (j ∈ is)) (canon is).length) (by rw [eS])
        exact ⟨.ref st.heap.objs.size, _, I.laid (t' := tk) k (Nat.le_refl _) ok, rfl, h _ _ _ e2 s2 r2⟩
      · exact h.elim
    · exact h.elim
  · exact h.elim
theorem ints_map_reps {K : KW} {m : List Addr} {H : Hp} : ∀ ks : List Int, DReps K m H (ks.map D.int) (ks.map V.int)
  | [] => by show DReps K m H [] []; rw [DReps]
  | k :: ks => by
    show DReps K m H (D.int k :: ks.map D.int) (V.int k :: ks.map V.int)
    rw [DReps]
    exact ⟨_, _, rfl, D.mk_int, ints_map_reps ks⟩
theorem c_sorted (hK : Z.K = X.kw) (hc : X.calm = true) : CallR X (.builtin "sorted") (rN Z fSorted) := by
  obtain ⟨K, T, ec⟩ := Z
  obtain rfl : K = X.kw := hK
  intro pins st σ H xs us Q I rx ⟨m, g, ds, s, hd, h⟩
  unfold fSorted at h
  split at h
  · obtain ⟨v, rfl, h1⟩ := reps1 hd
    split at h
    · rename_i ks e1
      split at h
      · rename_i hlen
        rw [DRep] at h1
        obtain ⟨p, rfl, h1⟩ := h1
        obtain ⟨o, h2, h3⟩ := s.at h1
        rw [e1] at h2; cases h2
        refine cr_sortedSet hc pins st σ H _ us Q I rx ⟨p, _, _, rfl, h3.1, hlen, fun ns q hs hm hl hq => ?_⟩
        have : ns = ks := rising_one ns ks hs h3.2 fun x => by rw [hm x]; simp
        subst this
        obtain ⟨e2, s2, r2⟩ := lst_new s (ints_map_reps ns) hq
        exact h _ _ _ e2 s2 r2
      · exact h.elim
    · exact h.elim
  · exact h.elim
end
end L3

/-! L3h: the word of a call's error: a try with many clauses; a lambda that is handed to it. -/
namespace L3
open PySem PySem.Spec PyProof.Rows L2

/-- a clause: the class; what its suite asks, or nothing where it is never taken -/
abbrev Cl : Type := Value × Option (Addr → Value → Option Addr → TS)
def wCl (K : PySem.W.Frag) (Wo : WX) (D : Ends) : List Cl → WX
  | [] => Wo
  | (c, none) :: r => fun cls d σ H => PySem.W.exmOne K cls c = some false ∧ wCl K Wo D r cls d σ H
  | (c, some ts) :: r => fun cls d σ H => ∃ b, PySem.W.exmOne K cls c = some b ∧
      if b = true then ∀ a, H a = none → ts a cls d D σ H else wCl K Wo D r cls d σ H
inductive ClOk (X : Cx) : List ExceptHandler → List Cl → Prop
  | nil : ClOk X [] []
  | skip {x : Str} {c : Value} {nm : Option Str} {b : Stmt} {bs : List Stmt} {p1 p2 : Pos} {hs : List ExceptHandler} {l : List Cl} (hc : Names X x c) (r : ClOk X hs l) :
      ClOk X (.ExceptHandler (some (.Name x p1)) nm (b :: bs) p2 :: hs) ((c, none) :: l)
  | take {x : Str} {c : Value} {ts : Addr → Value → Option Addr → TS} {b : Stmt} {bs : List Stmt} {p1 p2 : Pos} {hs : List ExceptHandler} {l : List Cl} (hc : Names X x c)
      (su : ∀ (a : Addr) (o : Obj) (cls : Value) (d : Option Addr) (pn : List (Addr × Obj)), PSs (X.suite a ((a, o) :: pn)) (b :: bs) (ts a cls d)) (r : ClOk X hs l) :
      ClOk X (.ExceptHandler (some (.Name x p1)) none (b :: bs) p2 :: hs) ((c, some ts) :: l)
section
variable {X : Cx} {W : WX}
/-- the caught exception, noted, at a; the frame as it was -/
structure Caught (X : Cx) (pins : List (Addr × Obj)) (σ : L2.St) (H : Hp) (B : Heap) (a : Addr) (cls : Value) (d : Option Addr) (sI s3 : Shared) : Prop where
  inv : Inv X pins σ H sI
  fly : HandSPX.FlyingZ B (X.env :: X.outer) a (Zc cls d) s3.heap
  nb : ∀ b o, sI.heap.get? b = some o → b ∉ frs X.stack → B.get? b = some o
  up : sI.heap.UpToSlots s3.heap
  na : H a = none
  nL : a ≠ X.env.locals
  nF : a ∉ X.fs
  os : s3.os = sI.os
  bare : AllBare s3.gens
theorem Caught.at_ {pins : List (Addr × Obj)} {σ : L2.St} {H : Hp} {B : Heap} {a : Addr} {cls : Value} {d : Option Addr} {sI s3 : Shared} (c : Caught X pins σ H B a cls d sI s3) :
    Inv X pins σ H s3 ∧ ∃ o, s3.heap.get? a = some o ∧ Zc cls d o ∧ ∃ vs, o.data = .fields vs := by
  obtain ⟨o, vs, h1, h2, h3⟩ := c.fly.there
  exact ⟨c.inv.landed c.nb c.fly.1 c.up c.os c.bare, o, h1, h2, vs, h3⟩
theorem Caught.suite {pins : List (Addr × Obj)} {σ : L2.St} {H : Hp} {B : Heap} {a : Addr} {cls : Value} {d : Option Addr} {sI s3 : Shared} (c : Caught X pins σ H B a cls d sI s3) :
    ∃ o, s3.heap.get? a = some o ∧ Zc cls d o ∧ Inv (X.suite a ((a, o) :: (X.pn ++ pins))) [] σ H s3 := by
  obtain ⟨I, o, h1, h2, vs, h3⟩ := c.at_
  exact ⟨o, h1, h2, I.suite h1 h3 c.na c.nL c.nF⟩
/-- the class's name is looked up, and the exception held against it -/
theorem Caught.test {pins : List (Addr × Obj)} {σ : L2.St} {H : Hp} {B : Heap} {a : Addr} {cls : Value} {d : Option Addr} {sI s3 : Shared} (c : Caught X pins σ H B a cls d sI s3) {x : Str} {cv : Value} {p q : Pos} {b : Bool}
    {R : Result → Shared → Prop} (hc : Names X x cv) (hm : PySem.W.exmOne X.K cls cv = some b) (h : R (.ok (if b then .brk else .next)) s3) :
    codeAny (model X.prog X.w) (X.A.mark (some (.ref a))) (.handlers (.ref a) [.ExceptHandler (some (.Name x p)) none [] q] X.env) R s3 := by
  obtain ⟨o, h1, h2, J⟩ := c.suite
  have I := c.at_.1
  have look : PySem.W.Looks (model X.prog X.w) s3.heap (typeOf (.ref a)) cls := fun A Q E s k q => wpAny_typeOf_ref (k _ _ h1) (by rw [h2.1]; exact q)
  have hit := PySem.W.exm_one (M := model X.prog X.w) I.kIn look hm
  refine codeAny_handlers_test ?_
  obtain ⟨hg, hd, hv | ⟨hv, hb, hn⟩⟩ := hc
  · exact ld_glob (X := X.suite a ((a, o) :: (X.pn ++ pins))) J hg hv (hit.here h) hd
  · exact ld_blt (X := X.suite a ((a, o) :: (X.pn ++ pins))) J hg hv hb (hit.here h) hn hd
theorem Caught.run (hst : X.stack = X.env :: X.outer) (tk : Takes X W) {pins : List (Addr × Obj)} {σ : L2.St} {H : Hp} {B : Heap} {a : Addr} {cls : Value} {d : Option Addr} {sI s3 : Shared} {D : Ends} (ok : X.Ok) (hf : X.env.frame = some X.env.locals)
    (c : Caught X pins σ H B a cls d sI s3) {hs : List ExceptHandler} {l : List Cl} (k : ClOk X hs l) (w : wCl X.K W D l cls d σ H) :
    wpAny (model X.prog X.w) X.A (handleBy (.ref a) X.env hs) (SP X pins D) X.xe s3 := by
  induction k with
  | nil =>
    refine wpAny_handleBy_nil ?_
    obtain ⟨k1, k2, k3, oe, vs, T, oT, ts', he, hz, hd, h1, hr⟩ := id c.fly
    have out : wpAny (model X.prog X.w) X.A (setFlight (.ref a) X.env.frame) (fun _ s4 => wpAny (model X.prog X.w) X.A (throw (.ref a) : Sem Flow) (SP X pins D) X.xe s4) X.xe s3 := by
      rw [hf]
      refine HandSPX.setFlight_upZ c.fly fun h4 hh4 up4 => wpAny_throw ?_
      exact tk _ _ ⟨a, B, sI, pins, σ, H, cls, d, rfl, c.inv, c.nb, c.up.trans up4, .inr (.inr (hst ▸ hh4)), c.na, c.os, c.bare, w⟩
    unfold PySem.passOn
    refine wpAny_bind (wpAny_field he hd h1 ?_)
    rw [if_neg (fun z : (Value.ref T == Value.none) = true => by simp at z)]
    first | exact wpAny_bind out | exact wpAny_bind (wpAny_pure (wpAny_bind out))
  | skip hc r ih =>
    obtain ⟨hm, w2⟩ := w
    exact wpAny_handleBy_cons (c.test hc hm (ih w2)) (fun q => nomatch q)
  | take hc su r ih =>
    obtain ⟨b, hm, w2⟩ := w
    refine wpAny_handleBy_cons (c.test hc hm ?_) (fun q => nomatch q)
    cases b with
    | false => exact ih w2
    | true =>
      refine codeAny_handlers_suite (HandSPX.lands_againZ c.fly fun h4 f4 u4 => ?_)
      have c4 : Caught X pins σ H B a cls d sI { s3 with heap := h4 } := ⟨c.inv, f4, c.nb, c.up.trans u4, c.na, c.nL, c.nF, c.os, c.bare⟩
      obtain ⟨o, h1, h2, J⟩ := c4.suite
      refine wpAny_mono ((su a o cls d (X.pn ++ pins)).run [] _ σ H D J (w2 a c.na)) (fun f s6 q => ?_) (fun _ _ z => z.elim)
      cases f with
      | next => obtain ⟨σ6, H6, J6, q6⟩ := q; exact ⟨σ6, H6, J6.unsuite ok, q6⟩
      | brk => obtain ⟨σ6, H6, J6, q6⟩ := q; exact ⟨σ6, H6, J6.unsuite ok, q6⟩
      | cont => obtain ⟨σ6, H6, J6, q6⟩ := q; exact ⟨σ6, H6, J6.unsuite ok, q6⟩
      | ret u => obtain ⟨v, σ6, H6, J6, r6, q6⟩ := q; exact ⟨v, σ6, H6, J6.unsuite ok, r6, q6⟩
theorem ps_tryCl {body : List Stmt} {h₀ : ExceptHandler} {hds : List ExceptHandler} {l : List Cl} {pos : Pos} {tb : WX → TS} (hst : X.stack = X.env :: X.outer) (hf : X.env.frame = some X.env.locals) (tk : Takes X W)
    (hb : ∀ (W' : WX) (pn : List (Addr × Obj)) (xe : Value → Shared → Prop), Takes (X.tr pn xe) W' → PassesOwn (model X.prog X.w) X.A X.env xe → PSs (X.tr pn xe) body (tb W')) (hk : ClOk X (h₀ :: hds) l) :
    PS X (.Try body (h₀ :: hds) [] [] pos) (fun D σ H => tb (wCl X.K W D l) D σ H) := ⟨fun pins s σ H D I h => by
  have hfr : X.A.frames = some (X.env :: X.outer) := hst ▸ I.ok.frames
  refine wpAny_Try_except (wpAny_mono ((hb (wCl X.K W D l) (X.pn ++ pins) _ (fun u s' z => ?_) PassesOwn.looking).run [] s σ H D (I.toTry _) h) (fun f s1 q => ?_) fun e s1 z => z)
  · obtain ⟨a, B, sI, pins', σ', H', cls, d, rfl, J', nb, up, sky, na, os, ag, w⟩ := z
    have J : Inv X pins σ' H' sI := J'.ofTry I.ok
    refine Sky.land Zc.steady hfr hf (hst ▸ sky) fun h3 f3 u3 => ?_
    obtain ⟨oe, vs, he, hz, hd⟩ := f3.there
    have nfr : a ∉ frs (X.env :: X.outer) := fun hm => by
      obtain ⟨_, o', e', hnf⟩ := f3.2.2.1.mem hm
      rw [he] at e'; cases e'
      exact hnf _ hd
    have c : Caught X pins σ' H' B a cls d sI { s' with heap := h3 } := ⟨J, f3, nb, up.trans u3, na, fun z => nfr (List.mem_filterMap.mpr ⟨X.env, List.mem_cons_self, by rw [hf, z]⟩), fun hm => by
      obtain ⟨e, he, q⟩ := List.mem_filterMap.mp hm
      exact nfr (List.mem_filterMap.mpr ⟨e, List.mem_cons_of_mem _ he, q⟩), os, ag⟩
    exact c.run hst tk I.ok hf hk w
  · cases f with
    | next => obtain ⟨σ6, H6, J6, q6⟩ := q; exact wpAny_execs_nil ⟨σ6, H6, J6.ofTry I.ok, q6⟩
    | brk => obtain ⟨σ6, H6, J6, q6⟩ := q; exact ⟨σ6, H6, J6.ofTry I.ok, q6⟩
    | cont => obtain ⟨σ6, H6, J6, q6⟩ := q; exact ⟨σ6, H6, J6.ofTry I.ok, q6⟩
    | ret u => obtain ⟨v, σ6, H6, J6, r6, q6⟩ := q; exact ⟨v, σ6, H6, J6.ofTry I.ok, r6, q6⟩⟩
end
end L3

/-! L3i: what a lambda that is handed to the words gives. -/
namespace L3
open PySem PySem.Spec PyProof.Rows L2

def wordS : List Str := ["rule", "squad", "number", "plan", "standing", "place", "row", "reply", "text", "unlike", "over", "undo"]
def wordR (r : Res D) : Res D := match r with
  | .ok _ g => .ok (.str "") g
  | .er (.own c) g => match wordS[c]? with
    | some s => .ok (.str s) g
    | none => .bad
  | _ => .bad
def eWord (e : EV) : EV := fun ρ g => wordR (e ρ g)
abbrev TTw (ec : Nat → Addr) : (XK → Hp → VK → Prop) → Hp → VK → Prop := fun tl H Q =>
  tl (fun cls _ H' => ∃ c s, wordS[c]? = some s ∧ cls = .ref (ec c) ∧ Q (.str s) H') H fun _ H' => Q (.str "") H'
/-- the suites: found is a word -/
abbrev tsW (s : Str) : Addr → Value → Option Addr → TS := fun _ _ _ => tAsg (tC (.str s)) (gName 1)
def clsOf (ec : Nat → Addr) (i : Nat) : List Str → List Cl
  | [] => []
  | s :: r => (.ref (ec i), some (tsW s)) :: clsOf ec (i + 1) r
theorem wCl_hit {K : PySem.W.Frag} {ec : Nat → Addr} {Wo : WX} {D : Ends} {c : Nat} {s : Str} {d : Option Addr} {σ : L2.St} {H : Hp} {rest : List Cl} (hx : ∀ j, j ≤ c → PySem.W.exmOne K (.ref (ec c)) (.ref (ec j)) = some (decide (c = j))) (q : ∀ a, tsW s a (.ref (ec c)) d D σ H) :
    ∀ (l : List Str) (i : Nat), i ≤ c → l[c - i]? = some s → wCl K Wo D (clsOf ec i l ++ rest) (.ref (ec c)) d σ H
  | [], i, _, h => by simp at h
  | w :: l, i, hi, h => by
    show ∃ b, PySem.W.exmOne K (.ref (ec c)) (.ref (ec i)) = some b ∧ if b = true then ∀ a, H a = none → tsW w a (.ref (ec c)) d D σ H else wCl K Wo D (clsOf ec (i + 1) l ++ rest) (.ref (ec c)) d σ H
    refine ⟨_, hx i hi, ?_⟩
    by_cases e : c = i
    · subst e
      simp at h
      subst h
      simp
      exact fun a _ => q a
    · rw [decide_eq_false e, if_neg Bool.false_ne_true]
      refine wCl_hit hx q l (i + 1) (by omega) ?_
      have : c - i = (c - (i + 1)) + 1 := by omega
      rw [this] at h
      simpa using h
theorem takes_len {X : Cx} {W : WX} (t : Takes X W) : Takes X (fun cls d σ H => σ.length = X.N.length → W cls d σ H) := fun u s' ⟨a, B, sI, pins, σ, H, cls, d, e, I, nb, up, sky, na, os, ag, w⟩ => t u s' ⟨a, B, sI, pins, σ, H, cls, d, e, I, nb, up, sky, na, os, ag, w I.len⟩
section
variable {X : Cx}
/-- the def of the words: found = ""; try: call() except ..; return found. l: its clauses -/
theorem gives_word {sg : Scope} {g : Addr} {cdg : Value} {q : Str} {ec : Nat → Addr} {l : List Cl} {h₀ : ExceptHandler} {hds : List ExceptHandler} {j : Nat} {p0 p1 p2 p3 p4 p5 p6 p7 p8 : Pos} (nd : (["call", "found", "e"] : List Str).Nodup)
    (hl1 : sg.names.lookup ("call" : Str) = some NameKind.local) (hl2 : sg.names.lookup ("found" : Str) = some NameKind.local) (hx : ∀ c j, c < 12 → j ≤ c → PySem.W.exmOne X.K (.ref (ec c)) (.ref (ec j)) = some (decide (c = j)))
    (hk : ∀ (s : Shared) (H : Hp), ClOk (cxOf C8.CX0 X.prog X.w X.K X.mg X.base ["call", "found", "e"] "_law_word" sg g cdg X.A X.stack s H C8.E0).nox (h₀ :: hds) (clsOf ec 0 wordS ++ l)) :
    LamX.GivesTo X ["call", "found", "e"] "_law_word" sg g cdg [.Assign [.Name "found" p0] (.Constant (.str "") j p1) p2, .Try [.Expr (.Call (.Name "call" p3) [] [] p4) p5] (h₀ :: hds) [] [] p6, .Return (some (.Name "found" p7)) p8] "call" q (TTw ec) := by
  intro f c' s H Q tl act hc h
  refine ⟨_, pss_cons (ps_set (i := 1) nd rfl (.inl hl2) pe_str rfl (.inr hl2)) (pss_cons (ps_tryCl (W := fun _ _ _ _ => False) (l := clsOf ec 0 wordS ++ l)
    (tb := fun W D σ H => ∃ Ech : XK, (∀ cls d σ' H', Ech cls d H' → σ'.length = 3 → W cls d σ' H') ∧ σ[0]? = some (some (.ref f)) ∧ H c' = some (LamX.CodeO c' q) ∧ tl Ech H fun _ H' => D.nx σ H')
    rfl rfl (fun u s' z => ?_) (fun W pn xe tk _ => ⟨fun pins s1 σ1 H1 D I h1 => ?_⟩) (hk s H)) (pss_one (ps_ret (pe_var (i := 1) rfl (.inl hl2))))), ?_⟩
  · obtain ⟨_, _, _, _, _, _, _, _, _, _, _, _, _, _, _, _, z⟩ := z
    exact z.elim
  · obtain ⟨Ech, hW, h2, h3, h4⟩ := h1
    have hp := act _ pn xe Ech p3 p4 (takes_len tk) fun cls d σ' H' e hl => hW cls d σ' H' e hl
    exact (pss_one (ps_expr (pos := p5) hp)).run pins s1 σ1 H1 D I ⟨h2, h3, h4⟩
  · refine ⟨fun cls _ H' => ∃ c s, wordS[c]? = some s ∧ cls = .ref (ec c) ∧ Q (.str s) H', fun cls d σ' H' hE hl => ?_, rfl, hc, ?_⟩
    · obtain ⟨c, s1, e1, rfl, hQ⟩ := hE
      have hc12 : c < 12 := (List.getElem?_eq_some_iff.mp e1).1
      refine wCl_hit (fun j hj => hx c j hc12 hj) (fun a => ?_) wordS 0 (Nat.zero_le _) (by simpa using e1)
      show ∃ v, (σ'.set 1 (some (V.str s1)))[1]? = some (some v) ∧ Q v H'
      exact ⟨_, List.getElem?_set_self (by omega), hQ⟩
    · have e : (fun (_ : V) (H' : Hp) => ∃ v, (List.set (L2.start ["call", "found", "e"] [V.ref f]) 1 (some (V.str "")))[1]? = some (some v) ∧ Q v H') = fun _ H' => Q (.str "") H' := by
        funext _ H'
        exact propext ⟨fun ⟨v, e, q⟩ => by cases e; exact q, fun q => ⟨_, rfl, q⟩⟩
      show tl _ H fun (_ : V) (H' : Hp) => ∃ v, (List.set (L2.start ["call", "found", "e"] [V.ref f]) 1 (some (V.str "")))[1]? = some (some v) ∧ Q v H'
      rw [e]
      exact h
theorem S.extN {K : KW} {T : List (Addr × Str)} {m : List Addr} {g : GH} {H H1 : Hp} (s : S K T m g H) (e : LamX.ExtN H H1) (t : LamX.Tabs T H1) : Ext m H m H1 ∧ S K T m g H1 := by
  have x : Ext m H m H1 := ⟨⟨[], by simp, fun _ h => by cases h⟩, fun b xs h => e b _ h (fun ps z => by cases z), fun b o u h => e b _ h (fun ps z => by cases z), fun b o h _ nt => e b o h nt, fun b h o q => by
    by_cases nt : ∃ ps, o = HO.tbl ps
    · exact nt
    · exact h o (e b o q fun ps z => nt ⟨ps, z⟩)⟩
  refine ⟨x, s.nod, s.len, fun i a o h1 h2 => ?_, t⟩
  refine (s.obj i a o h1 h2).mono x fun u h => e a u h ?_
  have r := s.obj i a o h1 h2
  cases o with
  | lst ds =>
    obtain ⟨xs, h3, _⟩ := r
    rw [h3] at h; cases h
    exact fun ps z => by cases z
  | iset ks =>
    rw [r.1] at h; cases h
    exact fun ps z => by unfold SetO at z; cases z
  | dct kvs =>
    obtain ⟨xs, h3, _⟩ := r
    rw [h3] at h; cases h
    exact fun ps z => by unfold DicO at z; cases z
  | dcf kvs =>
    obtain ⟨xs, o, h3, _⟩ := r
    rw [h3] at h; cases h
    exact fun ps z => by cases z
  | dkn n =>
    obtain ⟨xs, h3, _⟩ := r
    rw [h3] at h; cases h
    exact fun ps z => by cases z
theorem word_lam {Z : Row} {W : WX} {e : EV} {σ : L2.St} {H : Hp} {Q : VK} (h : tE Z (eWord e) W σ H Q) : LamX.tLam Z.T (TTw Z.ec) (fun E => tE Z e fun cls d _ H => E cls d H) σ H Q := by
  obtain ⟨m, g, ρ, s, r, h⟩ := h
  refine ⟨s.tab, fun H1 eN t1 => ?_⟩
  obtain ⟨x, s1⟩ := s.extN eN t1
  refine ⟨m, g, ρ, s1, r.mono x, ?_⟩
  unfold eWord wordR at h
  cases e1 : e ρ g with
  | bad => rw [e1] at h; exact h
  | ok d g1 =>
    rw [e1] at h
    exact fun m' H' v e2 s2 _ => h m' H' _ (x.trans e2) s2 D.mk_str
  | er y g1 =>
    rw [e1] at h
    cases y with
    | lim c d => exact h.elim
    | own c =>
      simp only at h
      cases e3 : wordS[c]? with
      | none => rw [e3] at h; exact h.elim
      | some w =>
        rw [e3] at h
        exact fun m' H' e2 s2 cls d er => ⟨c, w, e3, er.1, h m' H' _ (x.trans e2) s2 D.mk_str⟩
/-- x(lambda: body) -/
theorem pe3_word {Z : Row} {W : WX} {e : EV} {x : Str} {g c P : Addr} {k : Nat} {pg : Arguments} {bg : List Stmt} {sg : Scope} {fd : FuncData}
    {params : Arguments} {body : Expr} {scope : Scope} {p lpos pos : Pos} (hg : Gl X x) (hm : X.mg x = some (.ref g)) (F : FunD X.K x x pg bg sg [] [] g fd) (hb : L2.Binds X.K fd ["call"] []) (Sg : FnScope ["call", "found", "e"] ["call"] sg)
    (hva : Vis sg "call") (hG : ∀ cdv : Value, LamX.GivesTo X ["call", "found", "e"] x sg g cdv bg "call" (X.env.qual ++ "<lambda>") (TTw Z.ec))
    (TB : LamX.TabB X.base X.mg c P) (hcode : X.env.code = .ref c) (hmT : (P, X.env.qual ++ "<lambda>") ∈ Z.T) (hu : ∀ p ∈ Z.T, p.1 = P → p.2 = X.env.qual ++ "<lambda>") (hr : Room (k + 2) X.A) (L : LamX.LamS X.env.scope scope)
    (hbody : ∀ (A : Around) (outer : List Env) (s : Shared) (H : Hp) (E : XK) (f c' : Addr), Room k (A.deeper (LamX.lamEnv X scope s.heap.objs.size f c')) → PE (LamX.lamCx X A outer s H E scope f c') body (tE Z e fun cls d _ H => E cls d H))
    (hdef : defaultsOf params X.env = ([], []) := by rfl)
    (hbind : ∀ (q : Str) (cl : List (Str × Addr)) (pm cv ctv : Value), bindArgs (PySem.W.kla_fn "<lambda>" q params body scope cl pm cv ctv) ⟨[], []⟩ = pure [] := by intros; rfl)
    (hdb : (x == ("__debug__" : Str)) = false := by decide) : PE X (.Call (.Name x p) [.Lambda params body scope lpos] [] pos) (tE Z (eWord e) W) := by
  obtain ⟨oc, od, dV, kV, doc, pm, an, cdv, ct, osl, e1, lk, hcd, _, _⟩ := F.ex
  rw [e1] at lk hb
  exact (LamX.pe_lamcall (T := Z.T) hg hm F.kp lk hcd hb Sg rfl hva (hG cdv) TB hcode hmT hu hr L hdef hbind hbody hdb).imp fun σ H Q h => word_lam h
end
end L3

/-! L3j: short words for the derivations; defs by the head's facts; the law's end. -/
namespace L3
open PySem PySem.Spec PyProof.Rows L2

theorem bt_len : bootBuiltins "len" = some (.builtin "len") := by decide +kernel
theorem bt_abs : bootBuiltins "abs" = some (.builtin "abs") := by decide +kernel
theorem bt_min : bootBuiltins "min" = some (.builtin "min") := by decide +kernel
theorem bt_max : bootBuiltins "max" = some (.builtin "max") := by decide +kernel
theorem bt_sum : bootBuiltins "sum" = some (.builtin "sum") := by decide +kernel
theorem bt_sorted : bootBuiltins "sorted" = some (.builtin "sorted") := by decide +kernel
theorem bt_isinstance : bootBuiltins "isinstance" = some (.builtin "isinstance") := by decide +kernel
theorem bt_int : bootBuiltins "int" = some (.type "int") := by decide +kernel
theorem bt_bool : bootBuiltins "bool" = some (.type "bool") := by decide +kernel
theorem bt_str : bootBuiltins "str" = some (.type "str") := by decide +kernel
theorem bt_list : bootBuiltins "list" = some (.type "list") := by decide +kernel
theorem bt_tuple : bootBuiltins "tuple" = some (.type "tuple") := by decide +kernel
theorem bt_set : bootBuiltins "set" = some (.type "set") := by decide +kernel
theorem bt_dict : bootBuiltins "dict" = some (.type "dict") := by decide +kernel

def LenA (as : AV) (n : Nat) : Prop := ∀ ρ g ds g', as ρ g = .ok ds g' → ds.length = n
theorem lenA_nil : LenA aNil 0 := fun ρ g ds g' h => by cases h; rfl
theorem lenA_cons {a : EV} {as : AV} {n : Nat} (h : LenA as n) : LenA (aCons a as) (n + 1) := fun ρ g ds g' e => by
  unfold aCons at e
  cases e1 : a ρ g with
  | bad => rw [e1] at e; cases e
  | er x g1 => rw [e1] at e; cases e
  | ok d g1 =>
    rw [e1] at e
    simp only [Res.bind_ok] at e
    cases e2 : as ρ g1 with
    | bad => rw [e2] at e; cases e
    | er x g2 => rw [e2] at e; cases e
    | ok es g2 =>
      rw [e2] at e
      simp only [Res.bind_ok] at e
      cases e
      simp [h _ _ _ _ e2]
theorem slots_ok {t : T3} {n : Nat} (h : t.slots.all (fun i => decide (i < n)) = true) : ∀ i ∈ t.slots, i < n := fun i hi => by
  have := List.all_eq_true.mp h i hi
  simpa using this
section
variable {X : Cx} {Z : Row} {W : WX} {pos : Pos} {a b c : Expr} {ea eb ecc : EV}
theorem pe3_globI {x : Str} {i : Int} (hg : Gl X x) (hm : ∃ t, X.mg x = some (.int i t)) (hd : (x == ("__debug__" : Str)) = false := by decide) : PE X (.Name x pos) (tE Z (eC (.int i)) W) := by
  obtain ⟨t, hm⟩ := hm
  exact pe3_glob (v := .int i) hg hm ⟨t, rfl⟩ (fun _ _ => D.mk_int) hd
theorem pe3_globS {x i : Str} (hg : Gl X x) (hm : ∃ t, X.mg x = some (.str i t)) (hd : (x == ("__debug__" : Str)) = false := by decide) : PE X (.Name x pos) (tE Z (eC (.str i)) W) := by
  obtain ⟨t, hm⟩ := hm
  exact pe3_glob (v := .str i) hg hm ⟨t, rfl⟩ (fun _ _ => D.mk_str) hd
theorem ps3_par3 {i j l : Nat} {x y z : Str} {px py pz pt : Pos} {kt k2 pt2} (hc : X.calm = true) (hN : X.N.Nodup) (hi : X.N[i]? = some x) (hj : X.N[j]? = some y) (hl : X.N[l]? = some z) (hij : i ≠ j) (hil : i ≠ l) (hjl : j ≠ l)
    (hx : X.env.scope.names.lookup x = some .local) (hy : X.env.scope.names.lookup y = some .local) (hz : X.env.scope.names.lookup z = some .local) (ha : PE X a (tE Z ea W)) (hb : PE X b (tE Z eb W)) (hcc : PE X c (tE Z ecc W))
    (hw : swappedStores [.Tuple [.Name x px, .Name y py, .Name z pz] kt pt] (.Tuple [a, b, c] k2 pt2) X.env = pure (some [x, y, z]) := by rfl) (hse : starEach [a, b, c] X.env = (false, eval a X.env) :: starEach [b, c] X.env := by rfl)
    (hse2 : starEach [b, c] X.env = (false, eval b X.env) :: starEach [c] X.env := by rfl) (hse3 : starEach [c] X.env = (false, eval c X.env) :: starEach [] X.env := by rfl) :
    PS X (.Assign [.Tuple [.Name x px, .Name y py, .Name z pz] kt pt] (.Tuple [a, b, c] k2 pt2) pos) (tS Z (sPar3 i j l ea eb ecc) W) :=
  (ps_par3 hc hN hi hj hl hij hil hjl hx hy hz (pa_cons ha (pa_cons hb (pa_cons hcc pa_nil hse3) hse2) hse) hw).imp fun D σ H hlen ⟨m, g, ρ, s, r, h⟩ => ⟨m, g, ρ, s, r, PostS.bind h r fun m1 H1 d v g1 e1 s1 r1 h1 =>
    ⟨m1, g1, ρ, s1, r.mono e1, PostS.bind h1 (r.mono e1) fun m2 H2 e u g2 e2 s2 r2 h2 => ⟨m2, g2, ρ, s2, (r.mono e1).mono e2, PostS.bind h2 ((r.mono e1).mono e2) fun m3 H3 f w g3 e3 s3 r3 h3 =>
      ⟨v, u, w, rfl, h3 m3 H3 _ .refl s3 (by simp) ((((((r.mono e1).mono e2).mono e3).set (by rw [hlen]; exact (List.getElem?_eq_some_iff.mp hi).1) ((r1.mono e2).mono e3)).set (by rw [List.length_set, hlen]; exact (List.getElem?_eq_some_iff.mp hj).1) (r2.mono e3)).set
        (by rw [List.length_set, List.length_set, hlen]; exact (List.getElem?_eq_some_iff.mp hl).1) r3)⟩⟩⟩⟩
end

theorem u64 {k : Nat} {A : Around} (h : Room k A) : A.units + 64 < cLine := by have := h.un; omega
theorem u65 {k : Nat} {A : Around} (h : Room k A) : A.units + 65 < cLine := by have := h.un; omega
/-! ### defs by the head's facts -/
theorem fn3D {P : Program} {w : World} {K : PySem.W.Frag} {mg : Str → Option Value} {base : Heap} {Z : Row} {x : Str} {st : Stmt} {f : Addr} {fd : FuncData} {N ps : List Str} {k n : Nat} {b : SV}
    (F : FunD K x x (defArgs st) (defBody st) (defScope st) [] [] f fd) (Sc : FnScope N ps (defScope st)) (hn : ps.length = n) (hf : f = He.fAd K (x, none))
    (hbody : ∀ (cdv : Value) (A : Around) (outer : List Env) (s : Shared) (H : Hp) (E : XK), cdv = .ref (He.codeOf K (x, none)) → Room k (A.deeper (envOfC x (defScope st) s.heap.objs.size f cdv)) →
      PSs (cxOf (L2.CX P w) P w K mg base N x (defScope st) f cdv A outer s H E) (defBody st) (tS Z b (fun cls d _ H => E cls d H))) :
    FnOk P w K mg base (L2.CX P w) (k + 1) f fd ps (spOf Z n (runB b N.length)) := by
  obtain ⟨oc, od, dV, kV, doc, pm, an, cdv, ct, osl, e, lk, hcd, _, _⟩ := F.ex
  obtain ⟨c, hc⟩ := He.codeIn_ref hcd
  have hcode : cdv = .ref (He.codeOf K (x, none)) := by
    rw [He.codeOf_eq (c := c) (hf ▸ lk) (by rw [e]; exact hc)]
    exact hc
  have lk' := lk
  rw [e] at lk' ⊢
  refine fn_of lk' hcd Sc (fun vs H Q E h => by rw [h.1, hn]) fun A outer s H vs Q E hr ⟨hl, m, g, ds, st', r, h⟩ => ⟨_, hbody cdv A outer s H E hcode hr, m, g, _, st', RhoRep.start r, ?_⟩
  unfold runB at h
  have hlen : (start N vs).length = N.length := by
    have h2 : vs.length ≤ N.length := by
      rw [hl, ← hn, ← congrArg List.length Sc.pre, List.length_take]
      exact Nat.min_le_right _ _
    unfold L2.start
    simp
    omega
  rw [hlen]
  split at h
  · rename_i ρ' g' e
    rw [e]
    exact fun m' H' σ' e1 s1 _ _ => h m' H' .non e1 s1 D.mk_non
  · rename_i d g' e
    rw [e]
    exact fun m' H' v e1 s1 r1 => h m' H' v e1 s1 r1
  · rename_i x ρ' g' e
    rw [e]
    exact fun m' H' σ' cls d e1 s1 _ _ er => h m' H' e1 s1 cls d er
  · exact h.elim
theorem FnOk.zero {P : Program} {w : World} {K : PySem.W.Frag} {mg : Str → Option Value} {base : Heap} {Z : Row} {f : Addr} {fd : FuncData} {ps : List Str} {k n : Nat} {F : List D → GH → Res D} (h : ∀ ds g, F ds g = .bad) :
    FnOk P w K mg base (L2.CX P w) k f fd ps (spOf Z n F) :=
  ⟨fun vs H Q E ⟨_, m, g, ds, _, _, q⟩ => by rw [h] at q; exact q.elim, fun A outer s H args us vs Q E _ _ _ _ ⟨_, m, g, ds, _, _, q⟩ => by rw [h] at q; exact q.elim⟩
/-- from the script to the language's value of it -/
theorem law_sp {Z : Row} {F : List D → GH → Res D} {H : Hp} {a : Addr} {ns : List Int} (t : LamX.Tabs Z.T H) (hS : SqL Z.K.K H a (ns.map V.int)) (h : ∀ d g, lstOf g d = some (ns.map D.int) → (d = .scr (ns.map D.int) ∨ d = .ref 0) → ∃ g', F [d] g = .ok (.bl true) g') :
    spOf Z 1 F [.ref a] H (fun v _ => v = .bl true) fun _ _ _ => False := by
  refine ⟨rfl, ?_⟩
  have fin : ∀ m g d, S Z.K Z.T m g H → DRep Z.K m H d (.ref a) → lstOf g d = some (ns.map D.int) → (d = .scr (ns.map D.int) ∨ d = .ref 0) → ∃ m g ds, S Z.K Z.T m g H ∧ DReps Z.K m H ds [.ref a] ∧ Post Z.K Z.T (RD Z) (F ds g) m H (fun v _ => v = .bl true) fun e m' H' => ∀ cls d, ERep Z.ec Z.K m' H' e cls d → False := fun m g d s r e o => by
    refine ⟨m, g, [d], s, by rw [DReps]; exact ⟨_, [], rfl, r, by rw [DReps]⟩, ?_⟩
    obtain ⟨g', e'⟩ := h d g e o
    rw [e']
    exact fun m' H' v _ _ r => D.bl_inv r
  have e0 : S Z.K Z.T [] [] H := ⟨List.nodup_nil, rfl, fun i a o h => by simp at h, t⟩
  rcases hS with (hS | ⟨o, hS⟩) | hS
  · refine fin [a] [.lst (ns.map D.int)] (.ref 0) ⟨by simp, rfl, fun i b o h1 h2 => ?_, t⟩ ?_ rfl (.inr rfl)
    · cases i with
      | zero =>
        simp at h1 h2
        subst h1; subst h2
        exact ⟨_, hS, ints_map_reps ns⟩
      | succ i => simp at h1
    · rw [DRep]; exact ⟨a, rfl, rfl⟩
  · exact fin [] [] (.scr (ns.map D.int)) e0 (by rw [DRep]; exact ⟨a, _, rfl, .inl ⟨o, hS⟩, ints_map_reps ns⟩) rfl (.inl rfl)
  · exact fin [] [] (.scr (ns.map D.int)) e0 (by rw [DRep]; exact ⟨a, _, rfl, .inr hS, ints_map_reps ns⟩) rfl (.inl rfl)
end L3

/-! L3k: what an evaluation comes to, by its parts. -/
namespace L3
open PySem L2

def wp {α : Type} (r : Res α) (Q : α → GH → Prop) (W : Exc → GH → Prop) : Prop := match r with
  | .ok a g => Q a g
  | .er e g => W e g
  | .bad => False
def wpo {α : Type} (o : Option (α × GH)) (Q : α → GH → Prop) : Prop := match o with
  | some (a, g) => Q a g
  | none => False
structure Kt where
  nx : Rho → GH → Prop
  rt : D → GH → Prop
  bk : Rho → GH → Prop
  ct : Rho → GH → Prop
  er : Exc → GH → Prop
def wps (o : Out) (k : Kt) : Prop := match o with
  | .nx ρ g => k.nx ρ g
  | .rt d g => k.rt d g
  | .bk ρ g => k.bk ρ g
  | .ct ρ g => k.ct ρ g
  | .er e _ g => k.er e g
  | .bad => False
/-- what is still to be run -/
def Ltr (b : SV) (k : Kt) (ρ : Rho) (g : GH) : Prop := wps (b ρ g) k
theorem ltr_eq (b : SV) (k : Kt) (ρ : Rho) (g : GH) : Ltr b k ρ g = wps (b ρ g) k := rfl
abbrev F0 : Exc → GH → Prop := fun _ _ => False
theorem wp.imp {α : Type} {r : Res α} {Q Q' : α → GH → Prop} {W W' : Exc → GH → Prop} (h : wp r Q W) (k : ∀ a g, Q a g → Q' a g) (kw : ∀ e g, W e g → W' e g) : wp r Q' W' := by
  cases r with
  | ok a g => exact k a g h
  | er e g => exact kw e g h
  | bad => exact h
/-- what a call without exceptions comes to -/
theorem wp.use {α : Type} {r : Res α} {Q Q' : α → GH → Prop} {W : Exc → GH → Prop} (h : wp r Q F0) (k : ∀ a g, Q a g → Q' a g) : wp r Q' W := h.imp k fun _ _ z => z.elim
theorem wp.and {α : Type} {r : Res α} {Q Q' : α → GH → Prop} {W W' : Exc → GH → Prop} (h : wp r Q W) (h' : wp r Q' W') : wp r (fun a g => Q a g ∧ Q' a g) (fun e g => W e g ∧ W' e g) := by
  cases r with
  | ok a g => exact ⟨h, h'⟩
  | er e g => exact ⟨h, h'⟩
  | bad => exact h
section
variable {α β : Type} {Q : α → GH → Prop} {QD : D → GH → Prop} {QL : List D → GH → Prop} {QB : Bool → GH → Prop} {QI : Src → GH → Prop} {QO : Option Int → GH → Prop} {W : Exc → GH → Prop} {ρ : Rho} {g : GH} {k : Kt}
@[simp] theorem wp_ok (a : α) : wp (.ok a g) Q W = Q a g := rfl
@[simp] theorem wp_er (e : Exc) : wp (.er e g) Q W = W e g := rfl
@[simp] theorem wp_bad : wp .bad Q W = False := rfl
@[simp] theorem wp_bind (r : Res β) (f : β → GH → Res α) : wp (r.bind f) Q W = wp r (fun b g => wp (f b g) Q W) W := by cases r <;> rfl
@[simp] theorem wpo_some (a : α) (g : GH) : wpo (some (a, g)) Q = Q a g := rfl
@[simp] theorem wpo_none : wpo none Q = False := rfl
@[simp] theorem wp_liftO (o : Option (α × GH)) : wp (liftO o) Q W = wpo o Q := by
  cases o with
  | none => rfl
  | some p => cases p; rfl
@[simp] theorem wpo_if (c : Prop) [Decidable c] (a : α) (g : GH) : wpo (if c then some (a, g) else none) Q = (c ∧ Q a g) := by
  by_cases h : c <;> simp [h]
@[simp] theorem wpo_map (o : Option β) (f : β → α × GH) : wpo (o.map f) Q = ∃ b, o = some b ∧ Q (f b).1 (f b).2 := by
  cases o <;> simp [wpo]
@[simp] theorem wp_eVar (i : Nat) : wp (eVar i ρ g) QD W = ∃ d, ρ[i]? = some (some d) ∧ QD d g := by
  unfold eVar
  split
  · rename_i d e
    simp [e]
  · rename_i e
    refine (eq_false ?_).symm
    rintro ⟨d, h, _⟩
    exact e d h
@[simp] theorem wp_eC (d : D) : wp (eC d ρ g) QD W = QD d g := rfl
@[simp] theorem wp_eBin (f : F2) (a b : EV) : wp (eBin f a b ρ g) QD W = wp (a ρ g) (fun d g1 => wp (b ρ g1) (fun e g2 => wpo (f d e g2) QD) W) W := by simp [eBin]
@[simp] theorem wp_eUn (f : F1) (a : EV) : wp (eUn f a ρ g) QD W = wp (a ρ g) (fun d g1 => wpo (f d g1) QD) W := by simp [eUn]
@[simp] theorem wp_eBi (f : FN) (as : AV) : wp (eBi f as ρ g) QD W = wp (as ρ g) (fun d g1 => wpo (f d g1) QD) W := by simp [eBi]
@[simp] theorem wp_aNil : wp (aNil ρ g) QL W = QL [] g := rfl
@[simp] theorem wp_aCons (a : EV) (as : AV) : wp (aCons a as ρ g) QL W = wp (a ρ g) (fun d g1 => wp (as ρ g1) (fun ds g2 => QL (d :: ds) g2) W) W := by simp [aCons]
@[simp] theorem wp_if (c : Prop) [Decidable c] (a b : Res α) : wp (if c then a else b) Q W = if c then wp a Q W else wp b Q W := by split <;> rfl
@[simp] theorem wp_eTup (as : AV) : wp (eTup as ρ g) QD W = wp (as ρ g) (fun ds g1 => ds.length ≤ 16777216 ∧ QD (.tup ds) g1) W := by
  simp only [eTup, wp_bind]
  congr 1
  funext ds g1
  by_cases h : ds.length ≤ 16777216 <;> simp [h]
@[simp] theorem wp_eLst (as : AV) : wp (eLst as ρ g) QD W = wp (as ρ g) (fun ds g1 => ds.length ≤ 16777216 ∧ QD (.ref g1.length) (g1 ++ [.lst ds])) W := by
  simp only [eLst, wp_bind]
  congr 1
  funext ds g1
  by_cases h : ds.length ≤ 16777216 <;> simp [h]
@[simp] theorem wp_tB3 (a : EV) : wp (tB3 a ρ g) QB W = wp (a ρ g) (fun d g1 => ∃ b, d = .bl b ∧ QB b g1) W := by
  simp only [tB3, wp_bind]
  congr 1
  funext d g1
  cases d <;> simp
@[simp] theorem wp_tAnd3 (a b : TV) : wp (tAnd3 a b ρ g) QB W = wp (a ρ g) (fun c g1 => (c = true → wp (b ρ g1) QB W) ∧ (c = false → QB false g1)) W := by
  simp only [tAnd3, wp_bind]
  congr 1
  funext c g1
  cases c <;> simp
@[simp] theorem wp_tOr3 (a b : TV) : wp (tOr3 a b ρ g) QB W = wp (a ρ g) (fun c g1 => (c = true → QB true g1) ∧ (c = false → wp (b ρ g1) QB W)) W := by
  simp only [tOr3, wp_bind]
  congr 1
  funext c g1
  cases c <;> simp
@[simp] theorem wp_tNot3 (a : TV) : wp (tNot3 a ρ g) QB W = wp (a ρ g) (fun c g1 => QB (!c) g1) W := by simp [tNot3]
@[simp] theorem wp_eAnd (a b : EV) : wp (eAnd a b ρ g) QD W = wp (a ρ g) (fun d g1 => ∃ c, d = .bl c ∧ (c = true → wp (b ρ g1) QD W) ∧ (c = false → QD (.bl false) g1)) W := by
  simp only [eAnd, wp_bind]
  congr 1
  funext d g1
  cases d with
  | bl c => cases c <;> simp
  | _ => simp
@[simp] theorem wp_eOr (a b : EV) : wp (eOr a b ρ g) QD W = wp (a ρ g) (fun d g1 => ∃ c, d = .bl c ∧ (c = true → QD (.bl true) g1) ∧ (c = false → wp (b ρ g1) QD W)) W := by
  simp only [eOr, wp_bind]
  congr 1
  funext d g1
  cases d with
  | bl c => cases c <;> simp
  | _ => simp
@[simp] theorem wp_eNot (a : EV) : wp (eNot a ρ g) QD W = wp (a ρ g) (fun d g1 => ∃ c, d = .bl c ∧ QD (.bl !c) g1) W := by
  simp only [eNot, wp_bind]
  congr 1
  funext d g1
  cases d <;> simp
@[simp] theorem wp_eIf (t : TV) (a b : EV) : wp (eIf t a b ρ g) QD W = wp (t ρ g) (fun c g1 => (c = true → wp (a ρ g1) QD W) ∧ (c = false → wp (b ρ g1) QD W)) W := by
  simp only [eIf, wp_bind]
  congr 1
  funext c g1
  cases c <;> simp
@[simp] theorem wp_eCall (f : List D → GH → Res D) (as : AV) : wp (eCall f as ρ g) QD W = wp (as ρ g) (fun ds g1 => wp (f ds g1) QD W) W := by simp [eCall]
@[simp] theorem wp_eChain (f1 f2 : F2) (a b c : EV) : wp (eChain f1 f2 a b c ρ g) QD W = wp (a ρ g) (fun x g1 => wp (b ρ g1) (fun y g2 => wpo (f1 x y g2) fun q g3 => ∃ d, q = .bl d ∧ (d = true → wp (c ρ g3) (fun z g4 => wpo (f2 y z g4) QD) W) ∧ (d = false → QD (.bl false) g3)) W) W := by
  simp only [eChain, wp_bind, wp_liftO]
  congr 1
  funext x g1
  congr 1
  funext y g2
  congr 1
  funext q g3
  cases q with
  | bl c => cases c <;> simp
  | _ => simp
@[simp] theorem wp_eIsB (t : BT) (a : EV) : wp (eIsB t a ρ g) QD W = wp (a ρ g) (fun d g1 => ∃ b, isB t d g1 = some b ∧ QD (.bl b) g1) W := by
  simp only [eIsB, wp_bind]
  congr 1
  funext d g1
  cases isB t d g1 <;> simp
@[simp] theorem wp_oNone : wp (oNone ρ g) QO W = QO none g := rfl
@[simp] theorem wp_oSome (a : EV) : wp (oSome a ρ g) QO W = wp (a ρ g) (fun d g1 => ∃ i, d = .int i ∧ QO (some i) g1) W := by
  simp only [oSome, wp_bind]
  congr 1
  funext d g1
  cases d <;> simp
@[simp] theorem wp_eSl (a : EV) (lo hi : OV) : wp (eSl a lo hi ρ g) QD W = wp (a ρ g) (fun d g1 => wp (lo ρ g1) (fun l g2 => wp (hi ρ g2) (fun h g3 => wpo (opSl d l h g3) QD) W) W) W := by simp [eSl]
@[simp] theorem wp_eApp (o a : EV) : wp (eApp o a ρ g) QD W = wp (o ρ g) (fun d g1 => (∃ xs, (d = .rol xs ∨ d = .scr xs) ∧ wp (a ρ g1) (fun _ _ => False) W) ∨ ∃ i xs, d = .ref i ∧ g1[i]? = some (.lst xs) ∧ wp (a ρ g1) (fun e g2 => ∃ ds, g2[i]? = some (.lst ds) ∧ ds.length < 16777216 ∧ QD .non (g2.set i (.lst (ds ++ [e])))) W) W := by
  simp only [eApp, wp_bind]
  congr 1
  funext d g1
  cases d with
  | ref i =>
    cases e : g1[i]? with
    | none => simp [lstOf, e]
    | some o =>
      cases o with
      | lst xs =>
        simp only [lstOf, e, wp_bind]
        simp only [D.ref.injEq, Option.some.injEq, GO.lst.injEq, reduceCtorEq, false_and, exists_const, false_or]
        refine propext ⟨fun h => ⟨i, xs, rfl, e, h.imp (fun x g2 q => ?_) fun _ _ z => z⟩, ?_⟩
        · cases e2 : g2[i]? with
          | none => rw [e2] at q; exact q.elim
          | some o2 =>
            rw [e2] at q
            cases o2 with
            | lst ds =>
              simp only at q
              split at q
              · exact ⟨ds, rfl, by assumption, q⟩
              · exact q.elim
            | _ => exact q.elim
        · rintro ⟨j, ys, rfl, e3, h⟩
          refine h.imp (fun x g2 q => ?_) fun _ _ z => z
          obtain ⟨ds, e4, h5, q⟩ := q
          rw [e4]
          simp only
          rw [if_pos h5]
          exact q
      | iset ks => simp [lstOf, e]
      | dct ks => simp [lstOf, e]
      | dcf ks => simp [lstOf, e]
      | dkn ks => simp [lstOf, e]
  | rol xs => simp [lstOf]
  | scr xs => simp [lstOf]
  | _ => simp [lstOf]
/-! ### sources -/
@[simp] theorem wp_iSeq (a : EV) : wp (iSeq a ρ g) QI W = wp (a ρ g) (fun d g1 => (∃ ds, (d = .tup ds ∨ d = .rol ds) ∧ QI ⟨[], ds⟩ g1) ∨ ∃ i ds, d = .ref i ∧ g1[i]? = some (.lst ds) ∧ QI ⟨[(i, .lst ds)], ds⟩ g1) W := by
  simp only [iSeq, wp_bind]
  congr 1
  funext d g1
  cases d with
  | ref i =>
    cases e : g1[i]? with
    | none => simp [e]
    | some o => cases o <;> simp [e]
  | _ => simp
@[simp] theorem wp_iRg1 (a : EV) : wp (iRg1 a ρ g) QI W = wp (a ρ g) (fun d g1 => ∃ n, d = .int n ∧ (-4611686018427387904 < n ∧ n < 4611686018427387904) ∧ QI ⟨[], rangeD 0 n⟩ g1) W := by
  simp only [iRg1, wp_bind]
  congr 1
  funext d g1
  cases d with
  | int n =>
    by_cases h : n.natAbs < 4611686018427387904
    · have e : -4611686018427387904 < n ∧ n < 4611686018427387904 := by omega
      simp [h, e]
    · have e : ¬ (-4611686018427387904 < n ∧ n < 4611686018427387904) := by omega
      simp [h, e]
  | _ => simp
@[simp] theorem wp_iRg2 (a b : EV) : wp (iRg2 a b ρ g) QI W = wp (a ρ g) (fun d g1 => wp (b ρ g1) (fun e g2 => ∃ n m, d = .int n ∧ e = .int m ∧ (-4611686018427387904 < n ∧ n < 4611686018427387904 ∧ -4611686018427387904 < m ∧ m < 4611686018427387904) ∧ QI ⟨[], rangeD n m⟩ g2) W) W := by
  simp only [iRg2, wp_bind]
  congr 1
  funext d g1
  congr 1
  funext e g2
  cases d with
  | int n =>
    cases e with
    | int m =>
      by_cases h : n.natAbs < 4611686018427387904 ∧ m.natAbs < 4611686018427387904
      · have e : -4611686018427387904 < n ∧ n < 4611686018427387904 ∧ -4611686018427387904 < m ∧ m < 4611686018427387904 := by omega
        simp [h, e]
      · have e : ¬ (-4611686018427387904 < n ∧ n < 4611686018427387904 ∧ -4611686018427387904 < m ∧ m < 4611686018427387904) := by omega
        simp [h, e]
    | _ => simp
  | _ => simp
@[simp] theorem wp_tYes3 : wp (tYes3 ρ g) QB W = QB true g := rfl
@[simp] theorem wp_eComp (src : IV) (t : T3) (test : TV) (elt : EV) (own : List Nat) :
    wp (eComp src t test elt own ρ g) QD W = wp (src ρ g) (fun s g1 => s.items.length < 16777216 ∧ wp (compL s.deps t test elt (wipeR ρ own) s.items g1) (fun ys g2 => QD (.ref g2.length) (g2 ++ [.lst ys])) W) W := by
  simp only [eComp, wp_bind]
  congr 1
  funext s g1
  by_cases h : s.items.length < 16777216 <;> simp [h]
theorem wp_noEr {r : Res α} (h : wp r Q F0) : wp (noEr r) Q W := by
  cases r with
  | ok a g => exact h
  | er e g => exact h.elim
  | bad => exact h.elim
theorem wp_comp {deps : Deps} {t : T3} {test : TV} {elt : EV} (I : List D → List D → GH → Prop) (hd : ∀ xs ys g, I xs ys g → depsOk g deps = true)
    (hs : ∀ x xs ys g, I (x :: xs) ys g → ∃ ρ', t.set x ρ = some ρ' ∧ wp (test ρ' g) (fun b g1 => (b = true → wp (elt ρ' g1) (fun y g2 => I xs (ys ++ [y]) g2) F0) ∧ (b = false → I xs ys g1)) F0) :
    ∀ (items done : List D) (g : GH) (QL : List D → GH → Prop), I items done g → (∀ ys g, I [] (done ++ ys) g → QL ys g) → wp (compL deps t test elt ρ items g) QL W
  | [], done, g, QL, h, hn => by
    unfold compL
    rw [if_pos (hd _ _ _ h)]
    exact hn [] g (by simpa using h)
  | x :: xs, done, g, QL, h, hn => by
    unfold compL
    rw [if_pos (hd _ _ _ h)]
    obtain ⟨ρ', e, h1⟩ := hs _ _ _ _ h
    simp only [e, wp_bind]
    refine wp_noEr (h1.use fun b g1 h2 => ?_)
    cases b with
    | false =>
      simp only [Bool.false_eq_true, if_false]
      exact wp_comp I hd hs xs done g1 QL (h2.2 rfl) hn
    | true =>
      simp only [if_true, wp_bind]
      refine wp_noEr ((h2.1 rfl).use fun y g2 h3 => ?_)
      refine wp_comp I hd hs xs (done ++ [y]) g2 _ h3 fun ys g4 h4 => ?_
      exact hn (y :: ys) g4 (by simpa using h4)
/-! ### statements -/
@[simp] theorem wps_bindS (r : Res α) (f : α → GH → Out) : wps (bindS r ρ f) k = wp r (fun a g => wps (f a g) k) k.er := by cases r <;> rfl
@[simp] theorem wps_nx : wps (.nx ρ g) k = k.nx ρ g := rfl
@[simp] theorem wps_rt (d : D) : wps (.rt d g) k = k.rt d g := rfl
@[simp] theorem wps_bk : wps (.bk ρ g) k = k.bk ρ g := rfl
@[simp] theorem wps_ct : wps (.ct ρ g) k = k.ct ρ g := rfl
@[simp] theorem wps_er (e : Exc) : wps (.er e ρ g) k = k.er e g := rfl
@[simp] theorem wps_bad : wps .bad k = False := rfl
@[simp] theorem wps_sNil : wps (sNil ρ g) k = k.nx ρ g := rfl
@[simp] theorem wps_sSeq (a b : SV) : wps (sSeq a b ρ g) k = wps (a ρ g) { k with nx := Ltr b k } := by
  unfold sSeq
  cases a ρ g <;> rfl
@[simp] theorem wps_sAsg (i : Nat) (e : EV) : wps (sAsg (.one i) e ρ g) k = wp (e ρ g) (fun d g1 => k.nx (ρ.set i (some d)) g1) k.er := by simp [sAsg, T3.set]
@[simp] theorem wps_sAsgT (is : List Nat) (e : EV) : wps (sAsg (.tup is) e ρ g) k = wp (e ρ g) (fun d g1 => ∃ ds, d = .tup ds ∧ ds.length = is.length ∧ k.nx (setR ρ is ds) g1) k.er := by
  simp only [sAsg, wps_bindS]
  congr 1
  funext d g1
  cases d with
  | tup ds => by_cases h : ds.length = is.length <;> simp [T3.set, h]
  | _ => simp [T3.set]
@[simp] theorem wps_sPar (i j : Nat) (a b : EV) : wps (sPar i j a b ρ g) k = wp (a ρ g) (fun d g1 => wp (b ρ g1) (fun e g2 => k.nx ((ρ.set i (some d)).set j (some e)) g2) k.er) k.er := by simp [sPar]
@[simp] theorem wps_sPar3 (i j l : Nat) (a b c : EV) : wps (sPar3 i j l a b c ρ g) k = wp (a ρ g) (fun d g1 => wp (b ρ g1) (fun e g2 => wp (c ρ g2) (fun f g3 => k.nx (((ρ.set i (some d)).set j (some e)).set l (some f)) g3) k.er) k.er) k.er := by simp [sPar3]
@[simp] theorem wps_sExp (e : EV) : wps (sExp e ρ g) k = wp (e ρ g) (fun _ g1 => k.nx ρ g1) k.er := by simp [sExp]
@[simp] theorem wps_sRet (e : EV) : wps (sRet e ρ g) k = wp (e ρ g) (fun d g1 => k.rt d g1) k.er := by simp [sRet]
@[simp] theorem wps_sIf (t : TV) (a b : SV) : wps (sIf t a b ρ g) k = wp (t ρ g) (fun c g1 => (c = true → Ltr a k ρ g1) ∧ (c = false → Ltr b k ρ g1)) k.er := by
  simp only [sIf, wps_bindS]
  congr 1
  funext c g1
  cases c <;> simp [Ltr]
@[simp] theorem wps_sBrk : wps (sBrk ρ g) k = k.bk ρ g := rfl
@[simp] theorem wps_sCnt : wps (sCnt ρ g) k = k.ct ρ g := rfl
@[simp] theorem wps_sRaise (c : Nat) : wps (sRaise c ρ g) k = k.er (.own c) g := rfl
@[simp] theorem wps_sSetIx (fs : D → D → D → GH → Option GH) (o i e : EV) : wps (sSetIx fs o i e ρ g) k = wp (e ρ g) (fun x g1 => wp (o ρ g1) (fun d g2 => wp (i ρ g2) (fun j g3 => ∃ g4, fs d j x g3 = some g4 ∧ k.nx ρ g4) k.er) k.er) k.er := by
  simp only [sSetIx, wps_bindS]
  congr 1
  funext x g1
  congr 1
  funext d g2
  congr 1
  funext j g3
  cases fs d j x g3 <;> simp
@[simp] theorem wps_sFor (src : IV) (t : T3) (b : SV) : wps (sFor src t b ρ g) k = wp (src ρ g) (fun s g1 => wps (forL s.deps (stepOf t b) s.items ρ g1) k) k.er := by simp [sFor]
@[simp] theorem wp_runB (b : SV) (n : Nat) (ds : List D) : wp (runB b n ds g) QD W = wps (b (ds.map some ++ List.replicate (n - ds.length) none) g) ⟨fun _ g => QD .non g, QD, fun _ _ => False, fun _ _ => False, W⟩ := by
  unfold runB
  cases b (ds.map some ++ List.replicate (n - ds.length) none) g <;> rfl
@[simp] theorem wps_stepOf (i : Nat) (b : SV) (d : D) : wps (stepOf (.one i) b d ρ g) k = wps (b (ρ.set i (some d)) g) k := rfl
theorem wps_stepT (is : List Nat) (b : SV) (d : D) : wps (stepOf (.tup is) b d ρ g) k = ∃ ds, d = .tup ds ∧ ds.length = is.length ∧ wps (b (setR ρ is ds) g) k := by
  cases d with
  | tup ds => by_cases h : ds.length = is.length <;> simp [stepOf, T3.set, h]
  | _ => simp [stepOf, T3.set]
theorem wps_for {deps : Deps} {step : D → SV} {all : List D} (I : List D → Rho → GH → Prop) (hd : ∀ xs ρ g, I xs ρ g → depsOk g deps = true)
    (hs : ∀ x xs ρ g, x ∈ all → I (x :: xs) ρ g → wps (step x ρ g) { k with nx := I xs, ct := I xs, bk := k.nx }) (hn : ∀ ρ g, I [] ρ g → k.nx ρ g) :
    ∀ (items : List D), (∀ x ∈ items, x ∈ all) → ∀ (ρ : Rho) (g : GH), I items ρ g → wps (forL deps step items ρ g) k
  | [], _, ρ, g, h => by
    unfold forL
    rw [if_pos (hd _ _ _ h)]
    exact hn ρ g h
  | x :: xs, hm, ρ, g, h => by
    unfold forL
    rw [if_pos (hd _ _ _ h)]
    have h1 := hs x xs ρ g (hm x (by simp)) h
    have ih := wps_for I hd hs hn xs fun y hy => hm y (by simp [hy])
    cases e : step x ρ g with
    | nx ρ' g' => rw [e] at h1; exact ih ρ' g' h1
    | ct ρ' g' => rw [e] at h1; exact ih ρ' g' h1
    | bk ρ' g' => rw [e] at h1; exact h1
    | rt d g' => rw [e] at h1; exact h1
    | er x ρ' g' => rw [e] at h1; exact h1
    | bad => rw [e] at h1; exact h1
theorem wps_while {t : TV} {b : SV} (I : Nat → Rho → GH → Prop)
    (hs : ∀ m ρ g, I m ρ g → wp (t ρ g) (fun c g1 => (c = true → ∃ m', m = m' + 1 ∧ wps (b ρ g1) { k with nx := I m', ct := I m', bk := k.nx }) ∧ (c = false → k.nx ρ g1)) k.er) :
    ∀ (m n : Nat) (ρ : Rho) (g : GH), m < n → I m ρ g → wps (whileL t b n ρ g) k
  | m, 0, ρ, g, h, _ => by omega
  | m, n + 1, ρ, g, h, i => by
    unfold whileL
    rw [wps_bindS]
    refine (hs m ρ g i).imp (fun c g1 q => ?_) fun _ _ z => z
    cases c with
    | false => exact q.2 rfl
    | true =>
      obtain ⟨m', rfl, q2⟩ := q.1 rfl
      clear q
      have ih := fun ρ g => wps_while I hs m' n ρ g (by omega)
      simp only [if_true]
      cases e : b ρ g1 with
      | nx ρ' g' => rw [e] at q2; exact ih ρ' g' q2
      | ct ρ' g' => rw [e] at q2; exact ih ρ' g' q2
      | bk ρ' g' => rw [e] at q2; exact q2
      | rt d g' => rw [e] at q2; exact q2
      | er x ρ' g' => rw [e] at q2; exact q2
      | bad => rw [e] at q2; exact q2
end
end L3

/-! L3l: operators on known values, heaps that grow, the shared functions' laws. -/
namespace L3
open PySem L2
section
variable {Q : D → GH → Prop} {g : GH}
@[simp] theorem add_int (i j : Int) : wpo (opAdd (.int i) (.int j) g) Q = Q (.int (i + j)) g := rfl
@[simp] theorem add_tup (a b : List D) : wpo (opAdd (.tup a) (.tup b) g) Q = (a.length + b.length ≤ 16777216 ∧ Q (.tup (a ++ b)) g) := by
  show wpo (if a.length + b.length ≤ 16777216 then some (.tup (a ++ b), g) else none) Q = _
  rw [wpo_if]
@[simp] theorem add_str (a b : Str) : wpo (opAdd (.str a) (.str b) g) Q = (a.length + b.length ≤ 16777216 ∧ Q (.str (a ++ b)) g) := by
  show wpo (if a.length + b.length ≤ 16777216 then some (.str (a ++ b), g) else none) Q = _
  rw [wpo_if]
theorem add_ref {i j : Nat} {a b : List D} (h1 : g[i]? = some (.lst a)) (h2 : g[j]? = some (.lst b)) : wpo (opAdd (.ref i) (.ref j) g) Q = (a.length + b.length ≤ 16777216 ∧ Q (.ref g.length) (g ++ [.lst (a ++ b)])) := by
  simp only [opAdd, h1, h2]
  rw [wpo_if]
@[simp] theorem sub_int (i j : Int) : wpo (opSub (.int i) (.int j) g) Q = Q (.int (i - j)) g := rfl
@[simp] theorem mul_int (i j : Int) : wpo (opMul (.int i) (.int j) g) Q = (i.natAbs.log2 + j.natAbs.log2 < 1000000 ∧ Q (.int (i * j)) g) := by
  show wpo (if i.natAbs.log2 + j.natAbs.log2 < 1000000 then some (.int (i * j), g) else none) Q = _
  rw [wpo_if]
@[simp] theorem mul_tup (a : List D) (k : Int) : wpo (opMul (.tup a) (.int k) g) Q = ((a.length ≠ 0 ∧ 2 ≤ k ∧ k ≤ 1000 ∧ a.length ≤ 1000) ∧ Q (.tup (List.replicate k.toNat a).flatten) g) := by
  show wpo (if a.length ≠ 0 ∧ 2 ≤ k ∧ k ≤ 1000 ∧ a.length ≤ 1000 then some (.tup (List.replicate k.toNat a).flatten, g) else none) Q = _
  rw [wpo_if]
theorem mul_ref {i : Nat} {k : Int} {a : List D} (h : g[i]? = some (.lst a)) : wpo (opMul (.ref i) (.int k) g) Q = ((0 ≤ k ∧ k ≤ 1000000 ∧ a.length * k.toNat ≤ 16777216) ∧ Q (.ref g.length) (g ++ [.lst (List.replicate k.toNat a).flatten])) := by
  simp only [opMul, h]
  rw [wpo_if]
@[simp] theorem div_int (i j : Int) : wpo (opDiv (.int i) (.int j) g) Q = ((0 < j ∧ j.natAbs.log2 < 9000) ∧ Q (.int (i / j)) g) := by
  show wpo (if 0 < j ∧ j.natAbs.log2 < 9000 then some (.int (i / j), g) else none) Q = _
  rw [wpo_if]
@[simp] theorem mod_int (i j : Int) : wpo (opMod (.int i) (.int j) g) Q = (0 < j ∧ Q (.int (i % j)) g) := by
  show wpo (if 0 < j then some (.int (i % j), g) else none) Q = _
  rw [wpo_if]
@[simp] theorem pow_int (i j : Int) : wpo (opPow (.int i) (.int j) g) Q = ((0 ≤ j ∧ j ≤ 1000000 ∧ i.natAbs < 18446744073709551616) ∧ Q (.int (i ^ j.toNat)) g) := by
  show wpo (if 0 ≤ j ∧ j ≤ 1000000 ∧ i.natAbs < 18446744073709551616 then some (.int (i ^ j.toNat), g) else none) Q = _
  rw [wpo_if]
@[simp] theorem neg_int (i : Int) : wpo (opNeg (.int i) g) Q = Q (.int (-i)) g := rfl
@[simp] theorem lt_int (i j : Int) : wpo (opLt (.int i) (.int j) g) Q = Q (.bl (decide (i < j))) g := rfl
@[simp] theorem le_int (i j : Int) : wpo (opLe (.int i) (.int j) g) Q = Q (.bl (decide (i ≤ j))) g := rfl
@[simp] theorem gt_int (i j : Int) : wpo (opGt (.int i) (.int j) g) Q = Q (.bl (decide (j < i))) g := rfl
@[simp] theorem ge_int (i j : Int) : wpo (opGe (.int i) (.int j) g) Q = Q (.bl (decide (j ≤ i))) g := rfl
@[simp] theorem eq_int (i j : Int) : wpo (opEq (.int i) (.int j) g) Q = Q (.bl (decide (i = j))) g := by
  have e : PyData.eqv (.int i) (.int j) = decide (i = j) := by rw [PyData.eqv]; rfl
  simp [opEq, toPy, e]
@[simp] theorem ne_int (i j : Int) : wpo (opNe (.int i) (.int j) g) Q = Q (.bl (!decide (i = j))) g := by
  have e : PyData.eqv (.int i) (.int j) = decide (i = j) := by rw [PyData.eqv]; rfl
  simp [opNe, toPy, e]
@[simp] theorem is_bl (a b : Bool) : wpo (opIs (.bl a) (.bl b) g) Q = Q (.bl (decide (a = b))) g := rfl
@[simp] theorem isNot_bl (a b : Bool) : wpo (opIsNot (.bl a) (.bl b) g) Q = Q (.bl (!decide (a = b))) g := rfl
theorem eq_py {d e : D} {p q : PyData} (h1 : toPy g 16 d = some p) (h2 : toPy g 16 e = some q) : wpo (opEq d e g) Q = Q (.bl (PyData.eqv p q)) g := by simp [opEq, h1, h2]
theorem ne_py {d e : D} {p q : PyData} (h1 : toPy g 16 d = some p) (h2 : toPy g 16 e = some q) : wpo (opNe d e g) Q = Q (.bl (!PyData.eqv p q)) g := by simp [opNe, h1, h2]
@[simp] theorem ix_tup (ds : List D) (i : Int) : wpo (opIx (.tup ds) (.int i) g) Q = ∃ x, atI ds i = some x ∧ Q x g := by
  show wpo ((atI ds i).map fun x => (x, g)) Q = _
  rw [wpo_map]
theorem lst_get {i : Nat} {ds : List D} (h : lstOf g (.ref i) = some ds) : g[i]? = some (.lst ds) := by
  have h2 : (match g[i]? with | some (.lst ds) => some ds | _ => none) = some ds := h
  split at h2
  · rename_i es e
    cases h2
    exact e
  · cases h2
theorem ix_lst {d : D} {ds : List D} (h : lstOf g d = some ds) (i : Int) : wpo (opIx d (.int i) g) Q = ∃ x, atI ds i = some x ∧ Q x g := by
  have e : opIx d (.int i) g = (atI ds i).map fun x => (x, g) := by
    cases d with
    | rol es => simp [lstOf] at h; subst h; rfl
    | scr es => simp [lstOf] at h; subst h; rfl
    | ref k =>
      simp only [opIx, lst_get h]
    | _ => simp [lstOf] at h
  rw [e, wpo_map]
theorem lst_ref {i : Nat} {ds : List D} (h : g[i]? = some (.lst ds)) : lstOf g (.ref i) = some ds := by simp [lstOf, h]
@[simp] theorem len_tup (ds : List D) : wpo (fLen [.tup ds] g) Q = Q (.int ds.length) g := rfl
theorem len_lst {d : D} {ds : List D} (h : lstOf g d = some ds) : wpo (fLen [d] g) Q = Q (.int ds.length) g := by
  have e : fLen [d] g = (lstOf g d).map fun ds => (.int ds.length, g) := by cases d <;> first | rfl | simp [lstOf] at h
  rw [e, h]
  rfl
@[simp] theorem abs_int (i : Int) : wpo (fAbs [.int i] g) Q = Q (.int (if i < 0 then -i else i)) g := rfl
@[simp] theorem min_int (i j : Int) : wpo (fMin [.int i, .int j] g) Q = Q (.int (if j < i then j else i)) g := rfl
@[simp] theorem max_int (i j : Int) : wpo (fMax [.int i, .int j] g) Q = Q (.int (if j > i then j else i)) g := rfl
@[simp] theorem int_int (i : Int) : wpo (fInt [.int i] g) Q = Q (.int i) g := rfl
theorem sum_lst {d : D} {ds : List D} {is : List Int} (h : lstOf g d = some ds) (h2 : intsOf ds = some is) : wpo (fSum [d] g) Q = Q (.int is.sum) g := by
  show wpo (match (lstOf g d).bind intsOf with | some is => some (.int is.sum, g) | none => none) Q = _
  rw [h]
  simp [h2]
@[simp] theorem tuple_tup (ds : List D) : wpo (fTuple [.tup ds] g) Q = Q (.tup ds) g := rfl
theorem tuple_lst {d : D} {ds : List D} (h : lstOf g d = some ds) : wpo (fTuple [d] g) Q = Q (.tup ds) g := by
  have e : fTuple [d] g = (lstOf g d).map fun ds => (.tup ds, g) := by cases d <;> first | rfl | simp [lstOf] at h
  rw [e, h]
  rfl
@[simp] theorem list_tup (ds : List D) : wpo (fList [.tup ds] g) Q = Q (.ref g.length) (g ++ [.lst ds]) := rfl
theorem list_lst {d : D} {ds : List D} (h : lstOf g d = some ds) : wpo (fList [d] g) Q = Q (.ref g.length) (g ++ [.lst ds]) := by
  have e : fList [d] g = (lstOf g d).map fun ds => (.ref g.length, g ++ [.lst ds]) := by cases d <;> first | rfl | simp [lstOf] at h
  rw [e, h]
  rfl
@[simp] theorem sl_tup (ds : List D) (lo hi : Option Int) : wpo (opSl (.tup ds) lo hi g) Q = Q (.tup (cutD ds lo hi)) g := rfl
end
@[simp] theorem isB_int (t : BT) (i : Int) (g : GH) : isB t (.int i) g = some (match t with | .tint => true | _ => false) := rfl
@[simp] theorem isB_bl (t : BT) (i : Bool) (g : GH) : isB t (.bl i) g = some (match t with | .tint => true | .tbool => true | _ => false) := rfl
@[simp] theorem isB_non (t : BT) (g : GH) : isB t .non g = some false := rfl
@[simp] theorem isB_str (t : BT) (i : Str) (g : GH) : isB t (.str i) g = some (match t with | .tstr => true | _ => false) := rfl
@[simp] theorem isB_tup (t : BT) (i : List D) (g : GH) : isB t (.tup i) g = some (match t with | .ttuple => true | _ => false) := rfl
@[simp] theorem isB_rol (t : BT) (i : List D) (g : GH) : isB t (.rol i) g = some (match t with | .tlist => true | _ => false) := rfl
theorem isB_ref {t : BT} {i : Nat} {g : GH} {ds : List D} (h : g[i]? = some (.lst ds)) : isB t (.ref i) g = some (match t with | .tlist => true | _ => false) := by
  simp only [isB, h]
  all_goals (cases t <;> rfl)
/-! ### places in lists -/
theorem atI_nat {α : Type} {xs : List α} {i : Int} {n : Nat} (h : i = (n : Int)) (hn : n < xs.length) : atI xs i = some xs[n] := by
  subst h
  unfold atI ixN
  rw [if_pos (by omega), if_pos (by omega)]
  simp [hn]
theorem atI_mem {α : Type} {xs : List α} {i : Int} (h : 0 ≤ i) (hn : i < xs.length) : ∃ x, atI xs i = some x ∧ x ∈ xs := by
  obtain ⟨n, rfl⟩ := Int.eq_ofNat_of_zero_le h
  exact ⟨_, atI_nat rfl (by omega), List.getElem_mem _⟩
@[simp] theorem atI_zero {α : Type} (a : α) (r : List α) : atI (a :: r) 0 = some a := atI_nat (n := 0) rfl (by simp)
@[simp] theorem atI_one {α : Type} (a b : α) (r : List α) : atI (a :: b :: r) 1 = some b := atI_nat (n := 1) rfl (by simp)
@[simp] theorem atI_two {α : Type} (a b c : α) (r : List α) : atI (a :: b :: c :: r) 2 = some c := atI_nat (n := 2) rfl (by simp)
@[simp] theorem atI_three {α : Type} (a b c d : α) (r : List α) : atI (a :: b :: c :: d :: r) 3 = some d := atI_nat (n := 3) rfl (by simp)
@[simp] theorem ixN_nat (n i : Nat) : ixN n (i : Int) = if i < n then some i else none := by
  unfold ixN
  rw [if_pos (by omega)]
  by_cases h : i < n
  · rw [if_pos (by omega), if_pos h]; simp
  · rw [if_neg (by omega), if_neg h]
/-! ### heaps -/
/-- more objects, the old ones as they were -/
def App (g g' : GH) : Prop := ∃ j, g' = g ++ j
theorem App.refl (g : GH) : App g g := ⟨[], by simp⟩
theorem App.trans {a b c : GH} (h : App a b) (h' : App b c) : App a c := by
  obtain ⟨i, rfl⟩ := h
  obtain ⟨j, rfl⟩ := h'
  exact ⟨i ++ j, by simp⟩
theorem App.one (g : GH) (o : GO) : App g (g ++ [o]) := ⟨_, rfl⟩
theorem App.get {g g' : GH} (h : App g g') {i : Nat} {o : GO} (e : g[i]? = some o) : g'[i]? = some o := by
  obtain ⟨j, rfl⟩ := h
  rw [List.getElem?_append_left (List.getElem?_eq_some_iff.mp e).1, e]
theorem App.len {g g' : GH} (h : App g g') : g.length ≤ g'.length := by
  obtain ⟨j, rfl⟩ := h
  simp
@[simp] theorem get_end (g : GH) (o : GO) : (g ++ [o])[g.length]? = some o := by simp
theorem app_lst {g g' : GH} (h : App g g') {d : D} {ds : List D} (e : lstOf g d = some ds) : lstOf g' d = some ds := by
  cases d with
  | ref i => exact lst_ref (h.get (lst_get e))
  | rol es => exact e
  | scr es => exact e
  | _ => simp [lstOf] at e
/-- the flask r may change, all else stays -/
def Kp (r : Nat) (g g' : GH) : Prop := g.length ≤ g'.length ∧ ∀ i o, i ≠ r → g[i]? = some o → g'[i]? = some o
theorem Kp.refl (r : Nat) (g : GH) : Kp r g g := ⟨Nat.le_refl _, fun _ _ _ h => h⟩
theorem Kp.trans {r : Nat} {a b c : GH} (h : Kp r a b) (h' : Kp r b c) : Kp r a c := ⟨Nat.le_trans h.1 h'.1, fun i o n e => h'.2 i o n (h.2 i o n e)⟩
theorem App.kp {g g' : GH} (h : App g g') (r : Nat) : Kp r g g' := ⟨h.len, fun _ _ _ e => h.get e⟩
theorem Kp.set {r : Nat} {g : GH} (o : GO) : Kp r g (g.set r o) := ⟨by simp, fun i o' n e => by rw [List.getElem?_set_ne (Ne.symm n)]; exact e⟩
/-- a flask -/
def Fk (r : Nat) (g : GH) : Prop := ∃ a b : Int, g[r]? = some (.lst [.int a, .int b]) ∧ 0 ≤ a ∧ 0 ≤ b ∧ b ≤ 2147482577
theorem Fk.app {r : Nat} {g g' : GH} (h : Fk r g) (a : App g g') : Fk r g' := by
  obtain ⟨x, y, e, h⟩ := h
  exact ⟨x, y, a.get e, h⟩
theorem Fk.lt {r : Nat} {g : GH} (h : Fk r g) : r < g.length := by
  obtain ⟨x, y, e, h⟩ := h
  exact (List.getElem?_eq_some_iff.mp e).1
/-! ### sizes -/
theorem lg_small {i j : Int} (h : i.natAbs + j.natAbs < 1000000) : i.natAbs.log2 + j.natAbs.log2 < 1000000 := by
  have h1 := Nat.log2_le_self i.natAbs
  have h2 := Nat.log2_le_self j.natAbs
  omega
def Big : Int := 10 ^ 600
theorem lg_big {i : Int} (h : -Big ≤ i) (h2 : i ≤ Big) : i.natAbs.log2 < 4000 := by
  have e : i.natAbs ≤ 10 ^ 600 := by
    have : Big = ((10 ^ 600 : Nat) : Int) := by unfold Big; decide +kernel
    rw [this] at h h2
    generalize (10 ^ 600 : Nat) = B at h h2 ⊢
    omega
  by_cases z : i.natAbs = 0
  · rw [z]; decide
  · exact (Nat.log2_lt z).mpr (Nat.lt_of_le_of_lt e (by decide +kernel))
theorem lg2_big {i j : Int} (h : -Big ≤ i ∧ i ≤ Big) (h2 : -Big ≤ j ∧ j ≤ Big) : i.natAbs.log2 + j.natAbs.log2 < 1000000 := by
  have a := lg_big h.1 h.2
  have b := lg_big h2.1 h2.2
  omega
theorem lg_mid {i j : Int} (h : -1000000000000000000 ≤ i ∧ i ≤ 1000000000000000000) (h2 : -1000000000000000000 ≤ j ∧ j ≤ 1000000000000000000) : i.natAbs.log2 + j.natAbs.log2 < 1000000 := by
  have : (1000000000000000000 : Int) ≤ Big := by decide +kernel
  exact lg2_big ⟨by omega, by omega⟩ ⟨by omega, by omega⟩
theorem big_ge : (10 : Int) ^ 300 ≤ Big := by decide +kernel
end L3

/-! L3m: values of bounded depth; their comparison. -/
namespace L3
open PySem L2
theorem eq_of_wp {α : Type} {r : Res α} {v : α} {g : GH} (h : wp r (fun a g' => a = v ∧ g' = g) F0) : r = .ok v g := by
  cases r with
  | ok a g' => obtain ⟨rfl, rfl⟩ := h; rfl
  | er e g' => exact h.elim
  | bad => exact h.elim
theorem er_of_wp {α : Type} {r : Res α} {x : Exc} {g : GH} (h : wp r (fun _ _ => False) (fun e g' => e = x ∧ g' = g)) : r = .er x g := by
  cases r with
  | ok a g' => exact h.elim
  | er e g' => obtain ⟨rfl, rfl⟩ := h; rfl
  | bad => exact h.elim
theorem ok_of_wp {α : Type} {r : Res α} {Q : α → GH → Prop} (h : wp r Q F0) : ∃ a g, r = .ok a g ∧ Q a g := by
  cases r with
  | ok a g' => exact ⟨a, g', rfl, h⟩
  | er e g' => exact h.elim
  | bad => exact h.elim
@[simp] theorem wp_eWord {Q : D → GH → Prop} {W : Exc → GH → Prop} (e : EV) (ρ : Rho) (g : GH) : wp (eWord e ρ g) Q W = wp (e ρ g) (fun _ g1 => Q (.str "") g1) (fun x g1 => ∃ c w, x = .own c ∧ wordS[c]? = some w ∧ Q (.str w) g1) := by
  unfold eWord wordR
  cases e ρ g with
  | ok d g1 => rfl
  | bad => rfl
  | er x g1 =>
    cases x with
    | own c =>
      simp only [wp_er, Exc.own.injEq]
      cases z : wordS[c]? with
      | none => simp [z]
      | some w => simp [z]
    | lim c d => simp
theorem lst_kp {r : Nat} {g g' : GH} (K : Kp r g g') {d : D} {ds : List D} (hd : d ≠ .ref r) (e : lstOf g d = some ds) : lstOf g' d = some ds := by
  cases d with
  | ref i => exact lst_ref (K.2 _ _ (fun z => hd (by rw [z])) (by
      have h2 : (match g[i]? with | some (.lst ds) => some ds | _ => none) = some ds := e
      split at h2
      · rename_i es e
        cases h2
        exact e
      · cases h2))
  | rol es => exact e
  | scr es => exact e
  | _ => simp [lstOf] at e
theorem lst_lt {g : GH} {i : Nat} {ds : List D} (e : lstOf g (.ref i) = some ds) : i < g.length := by
  have h2 : (match g[i]? with | some (.lst ds) => some ds | _ => none) = some ds := e
  split at h2
  · rename_i es e
    exact (List.getElem?_eq_some_iff.mp e).1
  · cases h2
/-- a value whose parts are data; no part of it is the flask r -/
def Vl (r : Nat) (g : GH) : Nat → D → Prop
  | 0, _ => False
  | n + 1, d => match d with
    | .tup ds => ds.length ≤ 1000 ∧ ∀ x ∈ ds, Vl r g n x
    | .str s => PyData.strOk s = true ∧ s.length ≤ 1000
    | .rol ds => ds.length ≤ 1000 ∧ ∀ x ∈ ds, Vl r g n x
    | .scr _ => False
    | .ref i => i ≠ r ∧ ∃ ds, g[i]? = some (.lst ds) ∧ ds.length ≤ 1000 ∧ ∀ x ∈ ds, Vl r g n x
    | _ => True
theorem Vl.kp {r : Nat} {g g' : GH} (K : Kp r g g') : ∀ (n : Nat) (d : D), Vl r g n d → Vl r g' n d
  | 0, _, h => h.elim
  | n + 1, d, h => by
    cases d with
    | tup ds =>
      obtain ⟨h1, h2⟩ := h
      exact ⟨h1, fun x hx => Vl.kp K n x (h2 x hx)⟩
    | rol ds =>
      obtain ⟨h1, h2⟩ := h
      exact ⟨h1, fun x hx => Vl.kp K n x (h2 x hx)⟩
    | ref i =>
      obtain ⟨h1, ds, h2, h3, h4⟩ := h
      exact ⟨h1, ds, K.2 _ _ h1 h2, h3, fun x hx => Vl.kp K n x (h4 x hx)⟩
    | _ => exact h
theorem Vl.app {r : Nat} {g g' : GH} (A : App g g') {n : Nat} {d : D} (h : Vl r g n d) : Vl r g' n d := Vl.kp (A.kp r) n d h
theorem Vl.up {r : Nat} {g : GH} : ∀ (n m : Nat) (d : D), n ≤ m → Vl r g n d → Vl r g m d
  | 0, _, _, _, h => h.elim
  | n + 1, 0, _, l, _ => by omega
  | n + 1, m + 1, d, l, h => by
    cases d with
    | tup ds =>
      obtain ⟨h1, h2⟩ := h
      exact ⟨h1, fun x hx => Vl.up n m x (by omega) (h2 x hx)⟩
    | rol ds =>
      obtain ⟨h1, h2⟩ := h
      exact ⟨h1, fun x hx => Vl.up n m x (by omega) (h2 x hx)⟩
    | ref i =>
      obtain ⟨h1, ds, h2, h3, h4⟩ := h
      exact ⟨h1, ds, h2, h3, fun x hx => Vl.up n m x (by omega) (h4 x hx)⟩
    | _ => exact h
theorem toPy_ref {g : GH} {n i : Nat} {ds : List D} (h : g[i]? = some (.lst ds)) : toPy g (n + 1) (.ref i) = (ds.mapM (toPy g n)).map .list := by
  unfold toPy
  simp only [h]
theorem toPy_tup {g : GH} {n : Nat} {ds : List D} : toPy g (n + 1) (.tup ds) = (ds.mapM (toPy g n)).map .tuple := rfl
theorem toPy_rol {g : GH} {n : Nat} {ds : List D} : toPy g (n + 1) (.rol ds) = (ds.mapM (toPy g n)).map .list := rfl
theorem toPy_str {g : GH} {n : Nat} {s : Str} (h : PyData.strOk s = true) : toPy g (n + 1) (.str s) = some (.str s) := by
  unfold toPy
  simp only [h, if_true]
theorem toPy_int {g : GH} {n : Nat} {i : Int} : toPy g (n + 1) (.int i) = some (.int i) := rfl
theorem toPy_bl {g : GH} {n : Nat} {i : Bool} : toPy g (n + 1) (.bl i) = some (.bool i) := rfl
theorem toPy_non {g : GH} {n : Nat} : toPy g (n + 1) .non = some .none := rfl
theorem mapM_some {α β : Type} {f : α → Option β} : ∀ (xs : List α), (∀ x ∈ xs, ∃ p, f x = some p) → ∃ ps, xs.mapM f = some ps ∧ ps.length = xs.length
  | [], _ => ⟨[], by simp, rfl⟩
  | x :: xs, h => by
    obtain ⟨p, e⟩ := h x (by simp)
    obtain ⟨ps, e2, l⟩ := mapM_some xs fun y hy => h y (by simp [hy])
    refine ⟨p :: ps, ?_, by simp [l]⟩
    rw [List.mapM_cons, e, e2]
    rfl
theorem Vl.py {r : Nat} {g : GH} : ∀ (n k : Nat) (d : D), n ≤ k → Vl r g n d → ∃ p, toPy g k d = some p
  | 0, _, _, _, h => h.elim
  | n + 1, 0, _, l, _ => by omega
  | n + 1, k + 1, d, l, h => by
    cases d with
    | tup ds =>
      obtain ⟨ps, e, _⟩ := mapM_some (f := toPy g k) ds fun x hx => Vl.py n k x (by omega) (h.2 x hx)
      exact ⟨.tuple ps, by rw [toPy_tup, e]; rfl⟩
    | ref i =>
      obtain ⟨h1, ds, h2, h3, h4⟩ := h
      obtain ⟨ps, e, _⟩ := mapM_some (f := toPy g k) ds fun x hx => Vl.py n k x (by omega) (h4 x hx)
      exact ⟨.list ps, by rw [toPy_ref h2, e]; rfl⟩
    | str s => exact ⟨_, toPy_str h.1⟩
    | rol ds =>
      obtain ⟨ps, e, _⟩ := mapM_some (f := toPy g k) ds fun x hx => Vl.py n k x (by omega) (h.2 x hx)
      exact ⟨.list ps, by rw [toPy_rol, e]; rfl⟩
    | scr ds => exact h.elim
    | non => exact ⟨_, toPy_non⟩
    | bl b => exact ⟨_, toPy_bl⟩
    | int b => exact ⟨_, toPy_int⟩
theorem Vl.isB {r n : Nat} {g : GH} {d : D} (h : Vl r g n d) (t : BT) : isB t d g = some (match t, d with
    | .tint, .int _ => true | .tint, .bl _ => true | .tbool, .bl _ => true | .ttuple, .tup _ => true | .tlist, .ref _ => true | .tlist, .rol _ => true | .tstr, .str _ => true | _, _ => false) := by
  cases n with
  | zero => exact h.elim
  | succ n =>
    cases d with
    | ref i =>
      obtain ⟨_, ds, e, _⟩ := h
      rw [isB_ref e]
      cases t <;> rfl
    | scr ds => exact h.elim
    | _ => cases t <;> rfl
theorem py_lst {g : GH} {i n : Nat} {ds : List D} (h : g[i]? = some (.lst ds)) (hv : ∀ x ∈ ds, ∃ p, toPy g n x = some p) : ∃ ps, toPy g (n + 1) (.ref i) = some (.list ps) ∧ ps.length = ds.length := by
  obtain ⟨ps, e, l⟩ := mapM_some (f := toPy g n) ds hv
  exact ⟨ps, by rw [toPy_ref h, e]; rfl, l⟩
theorem py_ints {g : GH} {n : Nat} : ∀ is : List Int, (is.map D.int).mapM (toPy g (n + 1)) = some (is.map PyData.int)
  | [] => rfl
  | i :: is => by
    rw [List.map_cons, List.mapM_cons, py_ints is]
    rfl
theorem eqv_ints : ∀ is js : List Int, PyData.eqvAll (is.map .int) (js.map .int) = decide (is = js)
  | [], [] => rfl
  | [], _ :: _ => rfl
  | _ :: _, [] => rfl
  | i :: is, j :: js => by
    simp only [List.map_cons, PyData.eqvAll, eqv_ints is js, PyData.eqv]
    by_cases h : i = j <;> simp [h]
theorem eqv_nil (ps : List PyData) : PyData.eqv (.list ps) (.list []) = ps.isEmpty := by
  cases ps <;> rfl
theorem eqv_nilT (ps : List PyData) : PyData.eqv (.tuple ps) (.tuple []) = ps.isEmpty := by
  cases ps <;> rfl
theorem isEmpty_len {α β : Type} {xs : List α} {ys : List β} (h : xs.length = ys.length) : xs.isEmpty = ys.isEmpty := by
  cases xs <;> cases ys <;> simp_all
section
variable {Q : D → GH → Prop} {g : GH} {i j : Nat} {ds : List D}
theorem ne_nil (h : g[i]? = some (.lst ds)) (h2 : g[j]? = some (.lst [])) (hv : ∀ x ∈ ds, ∃ p, toPy g 15 x = some p) : wpo (opNe (.ref i) (.ref j) g) Q = Q (.bl (!ds.isEmpty)) g := by
  obtain ⟨ps, e, l⟩ := py_lst h hv
  obtain ⟨qs, e2, l2⟩ := py_lst (n := 15) h2 (by simp)
  rw [ne_py e e2, List.length_eq_zero_iff.mp l2, eqv_nil, isEmpty_len l]
theorem eq_nil (h : g[i]? = some (.lst ds)) (h2 : g[j]? = some (.lst [])) (hv : ∀ x ∈ ds, ∃ p, toPy g 15 x = some p) : wpo (opEq (.ref i) (.ref j) g) Q = Q (.bl ds.isEmpty) g := by
  obtain ⟨ps, e, l⟩ := py_lst h hv
  obtain ⟨qs, e2, l2⟩ := py_lst (n := 15) h2 (by simp)
  rw [eq_py e e2, List.length_eq_zero_iff.mp l2, eqv_nil, isEmpty_len l]
theorem eq_ints {is js : List Int} (h : g[i]? = some (.lst (is.map D.int))) (h2 : g[j]? = some (.lst (js.map D.int))) : wpo (opEq (.ref i) (.ref j) g) Q = Q (.bl (decide (is = js))) g := by
  have e1 : toPy g 16 (.ref i) = some (.list (is.map .int)) := by rw [toPy_ref h, py_ints is]; rfl
  have e2 : toPy g 16 (.ref j) = some (.list (js.map .int)) := by rw [toPy_ref h2, py_ints js]; rfl
  rw [eq_py e1 e2, PyData.eqv, eqv_ints]
end
theorem ne_str {Q : D → GH → Prop} {g : GH} {a b : Str} (ha : PyData.strOk a = true) (hb : PyData.strOk b = true) : wpo (opNe (.str a) (.str b) g) Q = Q (.bl (!(a == b))) g := by
  rw [ne_py (toPy_str (n := 15) ha) (toPy_str (n := 15) hb)]
  rfl
theorem eq_str {Q : D → GH → Prop} {g : GH} {a b : Str} (ha : PyData.strOk a = true) (hb : PyData.strOk b = true) : wpo (opEq (.str a) (.str b) g) Q = Q (.bl (a == b)) g := by
  rw [eq_py (toPy_str (n := 15) ha) (toPy_str (n := 15) hb)]
  rfl
theorem py_bls {g : GH} {n : Nat} : ∀ is : List Bool, (is.map D.bl).mapM (toPy g (n + 1)) = some (is.map PyData.bool)
  | [] => rfl
  | i :: is => by
    rw [List.map_cons, List.mapM_cons, py_bls is]
    rfl
theorem eqv_bls : ∀ is js : List Bool, PyData.eqvAll (is.map .bool) (js.map .bool) = decide (is = js)
  | [], [] => rfl
  | [], _ :: _ => rfl
  | _ :: _, [] => rfl
  | i :: is, j :: js => by
    simp only [List.map_cons, PyData.eqvAll, eqv_bls is js, PyData.eqv]
    by_cases h : i = j <;> simp [h]
theorem ne_bls {Q : D → GH → Prop} {g : GH} {i j : Nat} {is js : List Bool} (h : g[i]? = some (.lst (is.map D.bl))) (h2 : g[j]? = some (.lst (js.map D.bl))) : wpo (opNe (.ref i) (.ref j) g) Q = Q (.bl (!decide (is = js))) g := by
  have e1 : toPy g 16 (.ref i) = some (.list (is.map .bool)) := by rw [toPy_ref h, py_bls is]; rfl
  have e2 : toPy g 16 (.ref j) = some (.list (js.map .bool)) := by rw [toPy_ref h2, py_bls js]; rfl
  rw [ne_py e1 e2, PyData.eqv, eqv_bls]
theorem ne_emptyT {Q : D → GH → Prop} {g : GH} {ds : List D} (hv : ∀ x ∈ ds, ∃ p, toPy g 15 x = some p) : wpo (opNe (.tup ds) (.tup []) g) Q = Q (.bl (!ds.isEmpty)) g := by
  obtain ⟨ps, e, l⟩ := mapM_some (f := toPy g 15) ds hv
  have e1 : toPy g 16 (.tup ds) = some (.tuple ps) := by rw [toPy_tup, e]; rfl
  have e2 : toPy g 16 (.tup []) = some (.tuple []) := rfl
  rw [ne_py e1 e2, eqv_nilT, isEmpty_len l]
theorem cut_mem {ds : List D} {lo hi : Option Int} {x : D} (h : x ∈ cutD ds lo hi) : x ∈ ds := List.mem_of_mem_drop (List.mem_of_mem_take h)
theorem cut_len (ds : List D) (lo hi : Option Int) : (cutD ds lo hi).length ≤ ds.length := by
  unfold cutD
  simp
  omega
theorem intsOf_map : ∀ is : List Int, intsOf (is.map D.int) = some is
  | [] => rfl
  | i :: is => by simp [intsOf, intsOf_map is]
theorem set_ints {Q : D → GH → Prop} {g : GH} {is : List Int} (h : is.length < 4000) : wpo (fSet [.tup (is.map D.int)] g) Q = Q (.ref g.length) (g ++ [.iset (canon is)]) := by
  simp only [fSet, intsOf_map]
  rw [if_pos h]
  rfl
theorem sorted_ref {Q : D → GH → Prop} {g : GH} {i : Nat} {ks : List Int} (h : g[i]? = some (.iset ks)) (hl : ks.length < 64) : wpo (fSorted [.ref i] g) Q = Q (.ref g.length) (g ++ [.lst (ks.map .int)]) := by
  simp only [fSorted, h]
  rw [if_pos hl]
  rfl
@[simp high] theorem get_app0 (g L : GH) : (g ++ L)[g.length]? = L[0]? := by
  rw [List.getElem?_append_right (Nat.le_refl _), Nat.sub_self]
@[simp high] theorem get_app1 (g L : GH) (k : Nat) : (g ++ L)[g.length + k]? = L[k]? := by
  rw [List.getElem?_append_right (by omega), Nat.add_sub_cancel_left]
@[simp high] theorem get_app2 (g L : GH) (k j : Nat) : (g ++ L)[g.length + k + j]? = L[k + j]? := by
  rw [Nat.add_assoc, get_app1]
/-! ### the same, by places -/
section
variable {Q : D → GH → Prop} {g : GH} {i j : Nat}
theorem add_refs : wpo (opAdd (.ref i) (.ref j) g) Q = ∃ a b, g[i]? = some (.lst a) ∧ g[j]? = some (.lst b) ∧ a.length + b.length ≤ 16777216 ∧ Q (.ref g.length) (g ++ [.lst (a ++ b)]) := by
  refine propext ⟨fun h => ?_, fun ⟨a, b, h1, h2, h⟩ => by rw [add_ref h1 h2]; exact h⟩
  have h2 : wpo (match g[i]?, g[j]? with
    | some (.lst a), some (.lst b) => if a.length + b.length ≤ 16777216 then some (.ref g.length, g ++ [.lst (a ++ b)]) else none
    | _, _ => none) Q := h
  split at h2
  · rename_i a b e1 e2
    rw [wpo_if] at h2
    exact ⟨a, b, e1, e2, h2⟩
  · exact h2.elim
theorem mul_refs {k : Int} : wpo (opMul (.ref i) (.int k) g) Q = ∃ a, g[i]? = some (.lst a) ∧ (0 ≤ k ∧ k ≤ 1000000 ∧ a.length * k.toNat ≤ 16777216) ∧ Q (.ref g.length) (g ++ [.lst (List.replicate k.toNat a).flatten]) := by
  refine propext ⟨fun h => ?_, fun ⟨a, h1, h⟩ => by rw [mul_ref h1]; exact h⟩
  have h2 : wpo (match g[i]? with
    | some (.lst a) => if 0 ≤ k ∧ k ≤ 1000000 ∧ a.length * k.toNat ≤ 16777216 then some (.ref g.length, g ++ [.lst (List.replicate k.toNat a).flatten]) else none
    | _ => none) Q := h
  split at h2
  · rename_i a e1
    rw [wpo_if] at h2
    exact ⟨a, e1, h2⟩
  · exact h2.elim
theorem ix_refs {k : Int} : wpo (opIx (.ref i) (.int k) g) Q = ∃ a x, g[i]? = some (.lst a) ∧ atI a k = some x ∧ Q x g := by
  refine propext ⟨fun h => ?_, fun ⟨a, x, h1, h2, h⟩ => by rw [ix_lst (lst_ref h1)]; exact ⟨x, h2, h⟩⟩
  have h2 : wpo (match g[i]? with
    | some (.lst ds) => (atI ds k).map fun x => (x, g)
    | _ => none) Q := h
  split at h2
  · rename_i a e1
    rw [wpo_map] at h2
    obtain ⟨x, h3, h4⟩ := h2
    exact ⟨a, x, e1, h3, h4⟩
  · exact h2.elim
theorem lstOf_some {d : D} {o : Option (D × GH)} {f : List D → D × GH} (e : o = (lstOf g d).map f) : wpo o Q = ∃ a, lstOf g d = some a ∧ Q (f a).1 (f a).2 := by
  rw [e, wpo_map]
theorem lstOf_ref (a : List D) : (lstOf g (.ref i) = some a) = (g[i]? = some (.lst a)) := propext ⟨lst_get, lst_ref⟩
theorem len_refs : wpo (fLen [.ref i] g) Q = ∃ a, g[i]? = some (.lst a) ∧ Q (.int a.length) g := by
  rw [lstOf_some (o := fLen [.ref i] g) (g := g) (d := .ref i) (f := fun ds => (.int ds.length, g)) rfl]
  simp only [lstOf_ref]
theorem tuple_refs : wpo (fTuple [.ref i] g) Q = ∃ a, g[i]? = some (.lst a) ∧ Q (.tup a) g := by
  rw [lstOf_some (o := fTuple [.ref i] g) (g := g) (d := .ref i) (f := fun ds => (.tup ds, g)) rfl]
  simp only [lstOf_ref]
theorem list_refs : wpo (fList [.ref i] g) Q = ∃ a, g[i]? = some (.lst a) ∧ Q (.ref g.length) (g ++ [.lst a]) := by
  rw [lstOf_some (o := fList [.ref i] g) (g := g) (d := .ref i) (f := fun ds => (.ref g.length, g ++ [.lst ds])) rfl]
  simp only [lstOf_ref]
end
/-- a comprehension that leaves the old objects -/
theorem comp_app {deps : Deps} {t : T3} {test : TV} {elt : EV} {ρ : Rho} {W : Exc → GH → Prop} {g0 : GH} (f : D → Option D) (items : List D) (hd : ∀ g, App g0 g → depsOk g deps = true)
    (hs : ∀ x ∈ items, ∀ g, App g0 g → ∃ ρ', t.set x ρ = some ρ' ∧ wp (test ρ' g) (fun b g1 => App g g1 ∧ (b = true → wp (elt ρ' g1) (fun y g2 => App g1 g2 ∧ f x = some y) F0) ∧ (b = false → f x = none)) F0)
    (QL : List D → GH → Prop) (hq : ∀ g, App g0 g → QL (items.filterMap f) g) : wp (compL deps t test elt ρ items g0) QL W := by
  refine wp_comp (fun xs ys g => App g0 g ∧ (∀ x ∈ xs, x ∈ items) ∧ ys ++ xs.filterMap f = items.filterMap f) (fun xs ys g h => hd g h.1) ?_ items [] g0 QL ⟨App.refl _, fun _ h => h, rfl⟩ ?_
  · rintro x xs ys g ⟨A, hm, e⟩
    obtain ⟨ρ', e1, h⟩ := hs x (hm x (by simp)) g A
    refine ⟨ρ', e1, h.imp (fun b g1 ⟨A1, h1, h2⟩ => ⟨fun hb => (h1 hb).imp (fun y g2 ⟨A2, e2⟩ => ⟨(A.trans A1).trans A2, fun z hz => hm z (by simp [hz]), ?_⟩) fun _ _ z => z, fun hb => ⟨A.trans A1, fun z hz => hm z (by simp [hz]), ?_⟩⟩) fun _ _ z => z⟩
    · rw [List.filterMap_cons_some e2] at e
      simpa using e
    · rw [List.filterMap_cons_none (h2 hb)] at e
      exact e
  · rintro ys g ⟨A, _, e⟩
    simp at e
    rw [e]
    exact hq g A
theorem deps_one {g : GH} {i : Nat} {ds : List D} (h : g[i]? = some (.lst ds)) : depsOk g [(i, .lst ds)] = true := by
  simp [depsOk, h, sameO_refl]
end L3

/-! L3n: dicts whose keys are tuples of any depth. -/
namespace L3
open PySem PySem.Spec PyProof.Rows L2

/-- what stands at a key -/
def lookK : List (D × D) → NestedKey → Option D
  | [], _ => none
  | (k, d) :: r, key => if nk k = some key then some d else lookK r key
def replK (key : NestedKey) (v : D) : List (D × D) → List (D × D)
  | [] => []
  | (k, d) :: r => (if nk k = some key then (k, v) else (k, d)) :: replK key v r
def putD (kvs : List (D × D)) (key : NestedKey) (kd v : D) : List (D × D) := if (lookK kvs key).isSome then replK key v kvs else kvs ++ [(kd, v)]
/-- a key that is a tuple -/
def keyD (d : D) : Option NestedKey := match d with
  | .tup ds => (nk (.tup ds)).bind fun key => if key.depth ≤ 8 then some key else none
  | _ => none
def dicOf (g : GH) : D → Option (List (D × D))
  | .ref i => match g[i]? with
    | some (.dct kvs) => some kvs
    | some (.dcf kvs) => some kvs
    | _ => none
  | _ => none
/-- a dict that may be written -/
def dicW (g : GH) : D → Option (List (D × D))
  | .ref i => match g[i]? with
    | some (.dct kvs) => some kvs
    | _ => none
  | _ => none
def DicR (P : Program) (w : World) (H : Hp) (a : Addr) (xs : List (NestedKey × Addr × Value)) : Prop := H a = some (DicO P w a xs) ∨ ∃ o, H a = some (.frz o (DicO P w a xs))
def opInD : F2 := fun d e g => match dicOf g e, keyD d with
  | some kvs, some key => some (.bl (lookK kvs key).isSome, g)
  | _, _ => none
def opNotInD : F2 := fun d e g => match dicOf g e, keyD d with
  | some kvs, some key => some (.bl (!(lookK kvs key).isSome), g)
  | _, _ => none
def opIxD : F2 := fun d e g => match dicOf g d, keyD e with
  | some kvs, some key => (lookK kvs key).map fun v => (v, g)
  | _, _ => none
def opSetD (d i e : D) (g : GH) : Option GH := match d with
  | .ref k => (dicW g (.ref k)).bind fun kvs => (keyD i).bind fun key => if kvs.length < 16777216 then some (g.set k (.dct (putD kvs key i e))) else none
  | _ => none
def eDNew : EV := fun _ g => .ok (.ref g.length) (g ++ [.dct []])

section
variable {X : Cx} {pins : List (Addr × Obj)} {σ : L2.St} {H : Hp} {s : Shared} {m : List Addr} {T : List (Addr × Str)} {g : GH}
mutual
theorem nk_is (I : Inv X pins σ H s) : ∀ (d : D) (v : V) (key : NestedKey) (u : Value), DRep X.kw m H d v → nk d = some key → RelV v u → NestedIs s.heap key u
  | .non, v, key, u, r, h, rv => by
    simp [DRep] at r; subst r
    simp [nk] at h; subst h
    cases (show u = Value.none from rv)
    exact .none
  | .bl b, v, key, u, r, h, rv => by
    simp [DRep] at r; subst r
    simp [nk] at h; subst h
    cases (show u = Value.bool b from rv)
    exact .bool rfl
  | .int i, v, key, u, r, h, rv => by
    simp [DRep] at r; subst r
    simp [nk] at h; subst h
    obtain ⟨t, rfl⟩ := (show ∃ t, u = Value.int i t from rv)
    exact .int _ _
  | .str z, v, key, u, r, h, rv => by
    simp [DRep] at r; subst r
    simp [nk] at h; subst h
    obtain ⟨t, rfl⟩ := (show ∃ t, u = Value.str z t from rv)
    exact .text _ _
  | .tup ds, v, key, u, r, h, rv => by
    rw [DRep] at r
    obtain ⟨a, xs, rfl, h1, h2⟩ := r
    cases (show u = Value.ref a from rv)
    simp only [nk, Option.map_eq_some_iff] at h
    obtain ⟨ks, h3, rfl⟩ := h
    obtain ⟨its, rvs, ⟨o, ho, hc, n, hd⟩, _⟩ := I.tuple h1
    exact .tup ho hc hd (by simpa using nks_is I ds xs ks its h2 h3 rvs)
  | .rol ds, v, key, u, r, h, rv => by simp [nk] at h
  | .scr ds, v, key, u, r, h, rv => by simp [nk] at h
  | .ref i, v, key, u, r, h, rv => by simp [nk] at h
theorem nks_is (I : Inv X pins σ H s) : ∀ (ds : List D) (xs : List V) (ks : List NestedKey) (us : List Value), DReps X.kw m H ds xs → nks ds = some ks → Vals xs us → NestedAll s.heap ks us
  | [], xs, ks, us, r, h, rv => by
    rw [DReps] at r; subst r
    simp [nks] at h; subst h
    cases rv
    exact .nil
  | d :: ds, xs, ks, us, r, h, rv => by
    rw [DReps] at r
    obtain ⟨v, vs, rfl, h1, h2⟩ := r
    simp only [nks, Option.bind_eq_some_iff, Option.map_eq_some_iff] at h
    obtain ⟨k, h3, ks', h4, rfl⟩ := h
    cases rv with
    | cons rv1 rv2 => exact .cons (nk_is I d v k _ h1 h3 rv1) (nks_is I ds vs ks' _ h2 h4 rv2)
end
theorem keyD_tup {d : D} {key : NestedKey} (h : keyD d = some key) : nk d = some key ∧ key.depth ≤ 8 ∧ ∃ ds, d = .tup ds := by
  cases d with
  | tup ds =>
    have h2 : (nk (.tup ds)).bind (fun key => if key.depth ≤ 8 then some key else none) = some key := h
    obtain ⟨k, e, h3⟩ := Option.bind_eq_some_iff.mp h2
    by_cases hd : k.depth ≤ 8
    · rw [if_pos hd] at h3
      cases h3
      exact ⟨e, hd, ds, rfl⟩
    · rw [if_neg hd] at h3
      cases h3
  | _ => cases h
theorem key_rep {d : D} {key : NestedKey} {v : V} {u : Value} (I : Inv X pins σ H s) (h : keyD d = some key) (r : DRep X.kw m H d v) (rv : RelV v u) : ∃ b, v = .ref b ∧ u = .ref b ∧ (nestedKind X.prog X.w).is s.heap key b := by
  obtain ⟨h1, h2, ds, rfl⟩ := keyD_tup h
  have h3 := nk_is I _ v key u r h1 rv
  rw [DRep] at r
  obtain ⟨a, xs, rfl, _⟩ := r
  cases (show u = Value.ref a from rv)
  exact ⟨a, rfl, rfl, h3, h2⟩
theorem pair_is (I : Inv X pins σ H s) : ∀ (kvs : List (D × D)) (xs : List (NestedKey × Addr × Value)), PairD X.kw m H kvs xs → ∀ x ∈ xs, (nestedKind X.prog X.w).is s.heap x.1 x.2.1
  | [], xs, h, x, hx => by
    have : xs = [] := h
    subst this
    cases hx
  | (k, d) :: kvs, xs, ⟨key, b, v, vv, r, e, h1, h2, h3, h4, h5, h6⟩, x, hx => by
    subst e
    rcases List.mem_cons.mp hx with rfl | hx
    · exact ⟨nk_is I k _ key _ h3 h1 rfl, h2⟩
    · exact pair_is I kvs r h6 x hx
theorem dic_full (I : Inv X pins σ H s) {a : Addr} {kvs : List (D × D)} {xs : List (NestedKey × Addr × Value)} (h : DicR X.prog X.w H a xs) (p : PairD X.kw m H kvs xs) : s.heap.DictOfH (nestedKind X.prog X.w) a xs := by
  have z : ObjOk X.prog X.w H s.heap a (DicO X.prog X.w a xs) := by
    rcases h with h | ⟨o, h⟩
    · exact I.hok a _ h
    · exact (show ObjOk X.prog X.w H s.heap a (.frz o (DicO X.prog X.w a xs)) from I.hok a _ h).2
  obtain ⟨⟨o, es, ep, h1, h2, h3, h4, h5⟩, _, _⟩ := z
  exact ⟨o, es, ep, h1, h2, h3, h4, pair_is I kvs xs p, h5⟩
theorem pair_len {K : KW} : ∀ {kvs : List (D × D)} {xs : List (NestedKey × Addr × Value)}, PairD K m H kvs xs → xs.length = kvs.length
  | [], xs, h => by
    have : xs = [] := h
    subst this
    rfl
  | (k, d) :: kvs, xs, ⟨key, b, v, vv, r, e, h1, h2, h3, h4, h5, h6⟩ => by
    subst e
    simp [pair_len h6]
theorem pair_look {K : KW} {key : NestedKey} : ∀ {kvs : List (D × D)} {xs : List (NestedKey × Addr × Value)}, PairD K m H kvs xs →
    match lookK kvs key with
    | some d => ∃ b v vv, atKey xs key = some (b, v) ∧ RelV vv v ∧ DRep K m H d vv
    | none => atKey xs key = none
  | [], xs, h => by
    have : xs = [] := h
    subst this
    rfl
  | (k, d) :: kvs, xs, ⟨key', b, v, vv, r, e, h1, h2, h3, h4, h5, h6⟩ => by
    subst e
    by_cases hk : key' = key
    · subst hk
      simp only [lookK, h1, if_true]
      exact ⟨b, v, vv, by simp [atKey], h4, h5⟩
    · have : ¬ (nk k = some key) := by rw [h1]; simpa using hk
      simp only [lookK, this, if_false]
      have e2 : atKey ((key', b, v) :: r) key = atKey r key := by simp [atKey, hk]
      rw [e2]
      exact pair_look h6
theorem pair_repl {K : KW} {key : NestedKey} {d0 : D} {vv0 : V} {v0 : Value} (r0 : RelV vv0 v0) (q0 : DRep K m H d0 vv0) : ∀ {kvs : List (D × D)} {xs : List (NestedKey × Addr × Value)}, PairD K m H kvs xs → PairD K m H (replK key d0 kvs) (xs.map (putAt key v0))
  | [], xs, h => by
    have : xs = [] := h
    subst this
    rfl
  | (k, d) :: kvs, xs, ⟨key', b, v, vv, r, e, h1, h2, h3, h4, h5, h6⟩ => by
    subst e
    by_cases hk : key' = key
    · subst hk
      simp only [replK, h1, if_true, List.map_cons]
      exact ⟨key', b, v0, vv0, _, by simp [putAt], h1, h2, h3, r0, q0, pair_repl r0 q0 h6⟩
    · have : ¬ (nk k = some key) := by rw [h1]; simpa using hk
      simp only [replK, this, if_false, List.map_cons]
      exact ⟨key', b, v, vv, _, by simp [putAt, hk], h1, h2, h3, h4, h5, pair_repl r0 q0 h6⟩
theorem pair_app {K : KW} {key : NestedKey} {kd d0 : D} {b0 : Addr} {vv0 : V} {v0 : Value} (hk : nk kd = some key) (hd : key.depth ≤ 8) (rk : DRep K m H kd (.ref b0)) (r0 : RelV vv0 v0) (q0 : DRep K m H d0 vv0) :
    ∀ {kvs : List (D × D)} {xs : List (NestedKey × Addr × Value)}, PairD K m H kvs xs → PairD K m H (kvs ++ [(kd, d0)]) (xs ++ [(key, b0, v0)])
  | [], xs, h => by
    have : xs = [] := h
    subst this
    exact ⟨key, b0, v0, vv0, [], rfl, hk, hd, rk, r0, q0, rfl⟩
  | (k, d) :: kvs, xs, ⟨key', b, v, vv, r, e, h1, h2, h3, h4, h5, h6⟩ => by
    subst e
    exact ⟨key', b, v, vv, _, rfl, h1, h2, h3, h4, h5, pair_app hk hd rk r0 q0 h6⟩
theorem pair_put {K : KW} {key : NestedKey} {kd d0 : D} {b0 : Addr} {vv0 : V} {v0 : Value} (hk : nk kd = some key) (hd : key.depth ≤ 8) (rk : DRep K m H kd (.ref b0)) (r0 : RelV vv0 v0) (q0 : DRep K m H d0 vv0)
    {kvs : List (D × D)} {xs : List (NestedKey × Addr × Value)} (h : PairD K m H kvs xs) : PairD K m H (putD kvs key kd d0) (storedH xs key b0 v0) := by
  have l := pair_look (key := key) h
  unfold putD storedH
  cases e : lookK kvs key with
  | some d =>
    rw [e] at l
    obtain ⟨b, v, vv, e1, _⟩ := l
    simp only [e1, Option.isSome_some, if_true]
    exact pair_repl r0 q0 h
  | none =>
    rw [e] at l
    simp only at l
    simp only [l, Option.isSome_none, Bool.false_eq_true, if_false]
    exact pair_app hk hd rk r0 q0 h
theorem dic_at {K : KW} {d : D} {v : V} {kvs : List (D × D)} (s : S K T m g H) (hd : DRep K m H d v) (e : dicOf g d = some kvs) : ∃ a xs, v = .ref a ∧ DicR K.P K.w H a xs ∧ PairD K m H kvs xs ∧ (xs.map (·.1)).Nodup ∧ (a == sysModules) = false ∧ kvs.length ≤ 16777216 := by
  cases d with
  | ref i =>
    rw [DRep] at hd
    obtain ⟨a, rfl, h1⟩ := hd
    obtain ⟨o, h2, h3⟩ := s.at h1
    unfold dicOf at e
    simp only [h2] at e
    cases o with
    | dct k =>
      cases e
      obtain ⟨xs, h4, h5⟩ := h3
      exact ⟨a, xs, rfl, .inl h4, h5⟩
    | dcf k =>
      cases e
      obtain ⟨xs, o, h4, h5⟩ := h3
      exact ⟨a, xs, rfl, .inr ⟨o, h4⟩, h5⟩
    | _ => cases e
  | _ => cases e
theorem dicW_at {K : KW} {d : D} {v : V} {kvs : List (D × D)} (s : S K T m g H) (hd : DRep K m H d v) (e : dicW g d = some kvs) : ∃ i a xs, d = .ref i ∧ v = .ref a ∧ m[i]? = some a ∧ g[i]? = some (.dct kvs) ∧ H a = some (DicO K.P K.w a xs) ∧ PairD K m H kvs xs ∧ (xs.map (·.1)).Nodup ∧ (a == sysModules) = false ∧ kvs.length ≤ 16777216 := by
  cases d with
  | ref i =>
    have e2 : (match g[i]? with | some (.dct kvs) => some kvs | _ => none) = some kvs := e
    split at e2
    · rename_i kvs' e3
      cases e2
      rw [DRep] at hd
      obtain ⟨a, rfl, h1⟩ := hd
      obtain ⟨o, h2, h3⟩ := s.at h1
      rw [e3] at h2
      cases h2
      obtain ⟨xs, h4, h5, h6, h7, h8⟩ := h3
      exact ⟨i, a, xs, rfl, rfl, h1, e3, h4, h5, h6, h7, h8⟩
    · cases e2
  | _ => cases e
end
section
variable {X : Cx} {Z : Row} {W : WX} {pos : Pos}
theorem o_inD (hK : Z.K = X.kw) (hu : X.A.units + 65 < cLine) : OpR X (compareOp .In) (r2 Z opInD) := by
  obtain ⟨K, T, ec⟩ := Z
  obtain rfl : K = X.kw := hK
  intro pins st σ H x y v u Q I rx ry ⟨m, g, d, e, s, hd, he, h⟩
  unfold opInD at h
  split at h
  · rename_i kvs key e1 e2
    obtain ⟨a, xs, rfl, h4, h5, h6, h7, h8⟩ := dic_at s he e1
    cases (show u = Value.ref a from ry)
    obtain ⟨b, rfl, rfl, hb⟩ := key_rep I e2 hd rx
    refine wpAny_in_heap (show X.A.in1.units + 8 < cLine by show X.A.units + 1 + 8 < cLine; omega) hb h7 (dic_full I h4 h5) ?_
    have l := pair_look (key := key) h5
    have q : (atKey xs key).isSome = (lookK kvs key).isSome := by
      cases e3 : lookK kvs key with
      | some z => rw [e3] at l; obtain ⟨_, _, _, l, _⟩ := l; rw [l]; rfl
      | none => rw [e3] at l; simp only at l; rw [l]; rfl
    rw [q]
    exact ⟨.bl _, H, I.tok _, rfl, h.here s D.mk_bl⟩
  · exact h.elim
theorem o_notInD (hK : Z.K = X.kw) (hu : X.A.units + 65 < cLine) : OpR X (compareOp .NotIn) (r2 Z opNotInD) := by
  obtain ⟨K, T, ec⟩ := Z
  obtain rfl : K = X.kw := hK
  intro pins st σ H x y v u Q I rx ry ⟨m, g, d, e, s, hd, he, h⟩
  unfold opNotInD at h
  split at h
  · rename_i kvs key e1 e2
    obtain ⟨a, xs, rfl, h4, h5, h6, h7, h8⟩ := dic_at s he e1
    cases (show u = Value.ref a from ry)
    obtain ⟨b, rfl, rfl, hb⟩ := key_rep I e2 hd rx
    refine wpAny_notIn_heap (show X.A.in1.units + 8 < cLine by show X.A.units + 1 + 8 < cLine; omega) hb h7 (dic_full I h4 h5) ?_
    have l := pair_look (key := key) h5
    have q : (atKey xs key).isSome = (lookK kvs key).isSome := by
      cases e3 : lookK kvs key with
      | some z => rw [e3] at l; obtain ⟨_, _, _, l, _⟩ := l; rw [l]; rfl
      | none => rw [e3] at l; simp only at l; rw [l]; rfl
    rw [q]
    exact ⟨.bl _, H, I.tok _, rfl, h.here s D.mk_bl⟩
  · exact h.elim
theorem o_ixD (hK : Z.K = X.kw) (hu : X.A.units + 65 < cLine) : IxR X (r2 Z opIxD) := by
  obtain ⟨K, T, ec⟩ := Z
  obtain rfl : K = X.kw := hK
  intro value slice pins st σ H x y v u Q I rx ry ⟨m, g, d, e, s, hd, he, h⟩ hs
  unfold opIxD at h
  split at h
  · rename_i kvs key e1 e2
    obtain ⟨a, xs, rfl, h4, h5, h6, h7, h8⟩ := dic_at s hd e1
    cases (show v = Value.ref a from rx)
    obtain ⟨b, rfl, rfl, hb⟩ := key_rep I e2 he ry
    have l := pair_look (key := key) h5
    cases e3 : lookK kvs key with
    | none => rw [e3] at h; exact h.elim
    | some z =>
      rw [e3] at l h
      obtain ⟨b2, w, vv, l1, l2, l3⟩ := l
      have hm2 := dic_full I h4 h5
      exact tail_any hm2.typeIs slot_dict_getitem.lookup (wpAny_getItem_heap (show X.A.in1.units + 8 < cLine by show X.A.units + 1 + 8 < cLine; omega) hb hm2 l1 ⟨vv, H, I.tok _, l2, Post.here (d := z) h s l3⟩) hs
  · exact h.elim
theorem set_3D (hK : Z.K = X.kw) (hu : X.A.units + 65 < cLine) : PSet X (rSet3 Z opSetD) := by
  obtain ⟨K, T, ec⟩ := Z
  obtain rfl : K = X.kw := hK
  intro pins st σ H o i v ov iv u Q I ro ri rv ⟨m, g, d, j, x, s, hd, hj, hx, h⟩
  unfold opSetD at h
  split at h
  · rename_i g' e0
    split at e0
    · rename_i k
      obtain ⟨kvs, e1, e0⟩ := Option.bind_eq_some_iff.mp e0
      obtain ⟨key, e2, e0⟩ := Option.bind_eq_some_iff.mp e0
      split at e0
      · rename_i hl
        cases e0
        obtain ⟨i2, a, xs, hi2, rfl, hm, hg, h4, h5, h6, h7, h8⟩ := dicW_at s hd e1
        cases hi2
        cases (show ov = Value.ref a from ro)
        obtain ⟨k1, k2, ds, rfl⟩ := keyD_tup e2
        obtain ⟨b, rfl, rfl, hb⟩ := key_rep I e2 hj ri
        have hz : xs.length ≤ sizeLine := by
          rw [pair_len h5]
          exact h8
        refine wpAny_setItem_heap (hsz := hz) (show X.A.in1.units + 8 < cLine by show X.A.units + 1 + 8 < cLine; omega) hb (dic_full I (.inl h4) h5) fun h' dd hs => ?_
        obtain ⟨q, es, ep, d1, d2, d3, d4, d5, d6⟩ := dd
        have mw : Mine (DicO X.prog X.w a xs) := fun c q' => dicO_code X.prog X.w a h6 c q'
        have ex := s.putE (u := DicO X.prog X.w a (storedH xs key b u)) hm h4 mw (by unfold DicO; intro _ z; cases z)
        have hp : PairD X.kw m (upd H a (DicO X.prog X.w a (storedH xs key b u))) (putD kvs key (.tup ds) x) (storedH xs key b u) := PairD.mono0 (DRep.mono ex) _ _ (pair_put k1 k2 hj rv hx h5)
        have hlen : (putD kvs key (.tup ds) x).length ≤ 16777216 := by
          unfold putD
          split
          · have : ∀ l : List (D × D), (replK key x l).length = l.length := fun l => by
              induction l with
              | nil => rfl
              | cons p r ih => obtain ⟨p1, p2⟩ := p; simp [replK, ih]
            rw [this]; exact h8
          · simp; omega
        obtain ⟨e6, s6⟩ := s.put (o := .dct (putD kvs key (.tup ds) x)) (u := DicO X.prog X.w a (storedH xs key b u)) hm h4 mw ⟨_, upd_same, hp, d6, h7, hlen⟩ (by unfold DicO; intro _ z; cases z)
        refine ⟨_, d_write (ob := DicO X.prog X.w a (storedH xs key b u)) I (by rw [h4]; exact True.intro) hs ⟨q, d1⟩ ?_, h m _ e6 s6⟩
        refine ⟨⟨q, es, ep, d1, d2, d3, d4, d6⟩, ⟨q, d1⟩, fun h1 h2 ⟨o', es', ep', y1, y2⟩ keep => ⟨o', es', ep', keep _ y1, y2⟩⟩
      · cases e0
    · cases e0
  · exact h.elim
theorem pe3_dnew : PE X (.Dict [] [] pos) (tE Z eDNew W) := ⟨fun pins st σ H Q I ⟨m, g, ρ, s, r, h⟩ => by
  obtain ⟨K, T, ec⟩ := Z
  have hn := I.hok.fresh (Nat.le_refl st.heap.objs.size)
  have hsm : (st.heap.objs.size == sysModules) = false := beq_eq_false_iff_ne.mpr (Ne.symm (Nat.ne_of_lt I.big))
  obtain ⟨e, s2⟩ := s.new (u := DicO K.P K.w st.heap.objs.size []) (o := .dct []) hn ⟨[], upd_same, rfl, List.nodup_nil, hsm, by decide⟩
  have ok : ObjOk X.prog X.w (upd H st.heap.objs.size (DicO K.P K.w st.heap.objs.size [])) (st.heap.push { cls := .type "dict", data := .dict #[] }) st.heap.objs.size (DicO K.P K.w st.heap.objs.size []) :=
    ⟨⟨_, #[], 0, Heap.get?_push_size _ rfl, ⟨rfl, rfl, rfl⟩, rfl, rfl, List.nodup_nil⟩, ⟨_, Heap.get?_push_size _ rfl⟩, fun h1 h2 ⟨o', es', ep', y1, y2⟩ keep => ⟨o', es', ep', keep _ y1, y2⟩⟩
  refine wpAny_Dict_empty ⟨.ref st.heap.objs.size, _, I.laid (a := st.heap.objs.size) (o := DicO K.P K.w st.heap.objs.size []) (t' := st.toks) (fun _ _ q => Heap.get?_push_of_some _ q) (Nat.le_refl _) ok, rfl, ?_⟩
  refine h _ _ _ e s2 ?_
  show DRep _ _ _ (.ref g.length) _
  rw [DRep]
  exact ⟨_, rfl, by rw [← s.len]; simp⟩⟩
end
section
variable {Q : D → GH → Prop} {g : GH} {i : Nat} {kvs : List (D × D)} {d : D} {key : NestedKey}
theorem dicOf_ref (h : g[i]? = some (.dct kvs)) : dicOf g (.ref i) = some kvs := by
  unfold dicOf
  simp only [h]
theorem dicW_ref (h : g[i]? = some (.dct kvs)) : dicW g (.ref i) = some kvs := by
  unfold dicW
  simp only [h]
theorem in_dic (h : g[i]? = some (.dct kvs)) (hk : keyD d = some key) : wpo (opInD d (.ref i) g) Q = Q (.bl (lookK kvs key).isSome) g := by
  simp only [opInD, dicOf_ref h, hk, wpo_some]
theorem notIn_dic (h : g[i]? = some (.dct kvs)) (hk : keyD d = some key) : wpo (opNotInD d (.ref i) g) Q = Q (.bl (!(lookK kvs key).isSome)) g := by
  simp only [opNotInD, dicOf_ref h, hk, wpo_some]
theorem ix_dic (h : g[i]? = some (.dct kvs)) (hk : keyD d = some key) : wpo (opIxD (.ref i) d g) Q = ∃ v, lookK kvs key = some v ∧ Q v g := by
  simp only [opIxD, dicOf_ref h, hk]
  rw [wpo_map]
theorem set_dic {e : D} (h : g[i]? = some (.dct kvs)) (hk : keyD d = some key) (hl : kvs.length < 16777216) : opSetD (.ref i) d e g = some (g.set i (.dct (putD kvs key d e))) := by
  simp only [opSetD, dicW_ref h, hk, Option.bind_some, hl, if_true]
@[simp] theorem wp_eDNew {W : Exc → GH → Prop} {ρ : Rho} : wp (eDNew ρ g) Q W = Q (.ref g.length) (g ++ [.dct []]) := rfl
theorem look_repl (key k : NestedKey) (v : D) : ∀ kvs : List (D × D), lookK (replK key v kvs) k = if k = key then (if (lookK kvs key).isSome then some v else none) else lookK kvs k
  | [] => by simp [replK, lookK]
  | (k', d) :: r => by
    have ih := look_repl key k v r
    by_cases h1 : nk k' = some key
    · by_cases h2 : k = key
      · subst h2
        simp [replK, lookK, h1]
      · have h3 : ¬ (key = k) := fun z => h2 z.symm
        simp [replK, lookK, h1, h2, h3, ih]
    · by_cases h2 : k = key
      · subst h2
        simp [replK, lookK, h1, ih]
      · simp [replK, lookK, h1, h2, ih]
theorem look_app (key k : NestedKey) (kd v : D) (hk : nk kd = some key) : ∀ kvs : List (D × D), lookK kvs key = none → lookK (kvs ++ [(kd, v)]) k = if k = key then some v else lookK kvs k
  | [], _ => by
    by_cases h2 : k = key
    · subst h2; simp [lookK, hk]
    · have h3 : ¬ (key = k) := fun z => h2 z.symm
      simp [lookK, hk, h2, h3]
  | (k', d) :: r, h => by
    have hne : ¬ (nk k' = some key) := fun z => by simp [lookK, z] at h
    have ih := look_app key k kd v hk r (by simpa [lookK, hne] using h)
    by_cases h2 : k = key
    · subst h2; simp [lookK, hne, ih]
    · by_cases h4 : nk k' = some k
      · simp [lookK, h4, h2]
      · simp [lookK, h4, h2, ih]
/-- what stands behind a store -/
theorem look_put {k : NestedKey} {kd v : D} (hk : nk kd = some key) : lookK (putD kvs key kd v) k = if k = key then some v else lookK kvs k := by
  unfold putD
  split
  · rename_i h
    rw [look_repl, h]
    simp
  · rename_i h
    exact look_app key k kd v hk kvs (by simpa using h)
theorem put_len {kd v : D} : (putD kvs key kd v).length ≤ kvs.length + 1 := by
  have : ∀ l : List (D × D), (replK key v l).length = l.length := fun l => by
    induction l with
    | nil => rfl
    | cons p r ih => obtain ⟨p1, p2⟩ := p; simp [replK, ih]
  unfold putD
  split
  · rw [this]; omega
  · simp
end
@[simp] theorem int_bl {Q : D → GH → Prop} {g : GH} (b : Bool) : wpo (fInt [.bl b] g) Q = Q (.int (if b = true then 1 else 0)) g := rfl
@[simp] theorem ne_bl {Q : D → GH → Prop} {g : GH} (a b : Bool) : wpo (opNe (.bl a) (.bl b) g) Q = Q (.bl (!(a == b))) g := by
  have e : PyData.eqv (.bool a) (.bool b) = (a == b) := by rw [PyData.eqv]
  simp [opNe, toPy, e]
@[simp] theorem eq_bl {Q : D → GH → Prop} {g : GH} (a b : Bool) : wpo (opEq (.bl a) (.bl b) g) Q = Q (.bl (a == b)) g := by
  have e : PyData.eqv (.bool a) (.bool b) = (a == b) := by rw [PyData.eqv]
  simp [opEq, toPy, e]
theorem eq_bls {Q : D → GH → Prop} {g : GH} {i j : Nat} {is js : List Bool} (h : g[i]? = some (.lst (is.map D.bl))) (h2 : g[j]? = some (.lst (js.map D.bl))) : wpo (opEq (.ref i) (.ref j) g) Q = Q (.bl (decide (is = js))) g := by
  have e1 : toPy g 16 (.ref i) = some (.list (is.map .bool)) := by rw [toPy_ref h, py_bls is]; rfl
  have e2 : toPy g 16 (.ref j) = some (.list (js.map .bool)) := by rw [toPy_ref h2, py_bls js]; rfl
  rw [eq_py e1 e2, PyData.eqv, eqv_bls]
/-- all old objects stay -/
def Ex (g g' : GH) : Prop := g.length ≤ g'.length ∧ ∀ (i : Nat) o, g[i]? = some o → g'[i]? = some o
theorem App.ex {g g' : GH} (h : App g g') : Ex g g' := ⟨h.len, fun _ _ e => h.get e⟩
theorem Ex.trans {a b c : GH} (h : Ex a b) (h' : Ex b c) : Ex a c := ⟨Nat.le_trans h.1 h'.1, fun i o e => h'.2 i o (h.2 i o e)⟩
theorem Ex.refl (g : GH) : Ex g g := ⟨Nat.le_refl _, fun _ _ e => e⟩
theorem Ex.kp {g g' : GH} (h : Ex g g') (r : Nat) : Kp r g g' := ⟨h.1, fun i o _ e => h.2 i o e⟩
theorem Ex.fk {g g' : GH} (h : Ex g g') {r : Nat} (F : Fk r g) : Fk r g' := by
  obtain ⟨x, y, e, z⟩ := F
  exact ⟨x, y, h.2 _ _ e, z⟩
theorem Kp.new {g g' : GH} {o : GO} (h : Kp g.length (g ++ [o]) g') : Ex g g' := by
  refine ⟨?_, fun i u e => ?_⟩
  · have := h.1
    simp at this
    omega
  · have hi := (List.getElem?_eq_some_iff.mp e).1
    exact h.2 i u (by omega) ((App.one g o).get e)
/-! ### walks of ranges -/
theorem rangeD_nil {a b : Int} (h : b ≤ a) : rangeD a b = [] := by
  have : (b - a).toNat = 0 := by omega
  simp [rangeD, this]
theorem rangeD_cons {a b : Int} (h : a < b) : rangeD a b = .int a :: rangeD (a + 1) b := by
  obtain ⟨n, hn⟩ : ∃ n, (b - a).toNat = n + 1 := ⟨(b - a).toNat - 1, by omega⟩
  have h2 : (b - (a + 1)).toNat = n := by omega
  simp only [rangeD, hn, h2, List.range_succ_eq_map, List.map_cons, List.map_map]
  congr 1
  · simp
  · apply List.map_congr_left
    intro k _
    simp [Function.comp_def]
    omega
theorem rangeD_len (a b : Int) : (rangeD a b).length = (b - a).toNat := by simp [rangeD]
theorem wps_rg {b : Int} {step : D → SV} {k : Kt} (I : Int → Rho → GH → Prop) (hn : ∀ ρ g, I b ρ g → k.nx ρ g) : ∀ (n : Nat) (a : Int), b = a + n →
    (∀ i ρ g, a ≤ i → i < b → I i ρ g → wps (step (.int i) ρ g) { k with nx := I (i + 1), ct := I (i + 1), bk := k.nx }) → ∀ (ρ : Rho) (g : GH), I a ρ g → wps (forL [] step (rangeD a b) ρ g) k
  | 0, a, e, hs, ρ, g, h => by
    rw [rangeD_nil (by omega)]
    have : a = b := by omega
    subst this
    exact hn ρ g h
  | n + 1, a, e, hs, ρ, g, h => by
    rw [rangeD_cons (by omega)]
    have h1 := hs a ρ g (by omega) (by omega) h
    have ih := wps_rg I hn n (a + 1) (by omega) fun i ρ g h1 h2 => hs i ρ g (by omega) h2
    show wps (match step (.int a) ρ g with
      | .nx ρ' g' => forL [] step (rangeD (a + 1) b) ρ' g'
      | .ct ρ' g' => forL [] step (rangeD (a + 1) b) ρ' g'
      | .bk ρ' g' => .nx ρ' g'
      | o => o) k
    cases e : step (.int a) ρ g with
    | nx ρ' g' => rw [e] at h1; exact ih ρ' g' h1
    | ct ρ' g' => rw [e] at h1; exact ih ρ' g' h1
    | bk ρ' g' => rw [e] at h1; exact h1
    | rt d g' => rw [e] at h1; exact h1
    | er x ρ' g' => rw [e] at h1; exact h1
    | bad => rw [e] at h1; exact h1
theorem wps_rng {a b : Int} {step : D → SV} {k : Kt} (I : Int → Rho → GH → Prop) (hab : a ≤ b) (hs : ∀ i ρ g, a ≤ i → i < b → I i ρ g → wps (step (.int i) ρ g) { k with nx := I (i + 1), ct := I (i + 1), bk := k.nx })
    (hn : ∀ ρ g, I b ρ g → k.nx ρ g) (ρ : Rho) (g : GH) (h : I a ρ g) : wps (forL [] step (rangeD a b) ρ g) k := wps_rg I hn (b - a).toNat a (by omega) hs ρ g h
end L3

/-! L3o: enumerate over lists. -/
namespace L3
open PySem PySem.Spec PyProof.Rows L2

def enumD (k : Nat) : List D → List D
  | [] => []
  | d :: ds => .tup [.int (k : Nat), d] :: enumD (k + 1) ds
theorem enumD_len : ∀ (k : Nat) (ds : List D), (enumD k ds).length = ds.length
  | _, [] => rfl
  | k, d :: ds => by simp [enumD, enumD_len (k + 1) ds]
theorem enumD_get : ∀ (k i : Nat) (ds : List D) (d : D), ds[i]? = some d → (enumD k ds)[i]? = some (.tup [.int ((k + i : Nat) : Int), d])
  | _, _, [], _, h => by simp at h
  | k, 0, x :: ds, d, h => by
    simp at h
    subst h
    rfl
  | k, i + 1, x :: ds, d, h => by
    have := enumD_get (k + 1) i ds d (by simpa using h)
    simp only [enumD, List.getElem?_cons_succ]
    rw [this]
    congr 4
    omega
def iEnumL (a : EV) : IV := fun ρ g => (a ρ g).bind fun d g1 => match d with
  | .ref i => match g1[i]? with
    | some (.lst ds) => .ok ⟨[(i, .lst ds)], enumD 0 ds⟩ g1
    | _ => .bad
  | _ => .bad
section
variable {X : Cx} {Z : Row} {W : WX} {pos : Pos} {tg a b : Expr} {ea eb : EV}
theorem jrep_enum {K : KW} {T : List (Addr × Str)} {m0 : List Addr} {H0 : Hp} {i0 : Nat} {a0 : Addr} {ds : List D} (h0 : m0[i0]? = some a0) : JRep K T m0 H0 ⟨[(i0, .lst ds)], enumD 0 ds⟩ (Ite K.K a0) := by
  intro i m g H e s hd
  have h1 := depsOk_mem hd List.mem_cons_self
  obtain ⟨o, h2, xs, h3, h4⟩ : ∃ o, g[i0]? = some o ∧ ∃ xs, H a0 = some (.lst xs) ∧ DReps K m H ds xs := by
    obtain ⟨o, h2, h3⟩ := s.at (e.get h0)
    rw [h1] at h2; cases h2
    exact ⟨_, h1, h3⟩
  refine ⟨fun hi => ⟨xs, SqL.of h3, by rw [hi]; show xs.length ≤ (enumD 0 ds).length; rw [enumD_len, h4.length]; exact Nat.le_refl _⟩, fun hi => ?_⟩
  have hi' : i < ds.length := by
    have : i < (enumD 0 ds).length := hi
    rw [enumD_len] at this
    exact this
  refine ⟨⟨xs, xs[i]'(by rw [← h4.length]; exact hi'), SqL.of h3, by simp⟩, fun x H' y => ?_⟩
  obtain ⟨T0, w, rfl, hT, rfl, y⟩ := y
  obtain ⟨d, h5, h6⟩ := h4.get' (y xs (SqL.of h3))
  obtain ⟨e2, s2⟩ := s.laid (u := .tup [.int (i : Nat), w]) hT
  refine ⟨.tup [.int (i : Nat), d], ?_, e2, s2, ?_⟩
  · have := enumD_get 0 i ds d h5
    rw [Nat.zero_add] at this
    exact this
  · rw [DRep]
    refine ⟨T0, [.int (i : Nat), w], rfl, .inl (.inl upd_same), ?_⟩
    rw [DReps]
    refine ⟨_, _, rfl, D.mk_int, ?_⟩
    rw [DReps]
    exact ⟨_, _, rfl, h6.mono e2, by rw [DReps]⟩
theorem pi3_enum {e : Expr} {p : Pos} {elts : List Expr} {kk : Nat} {tpos : Pos} (hK : Z.K = X.kw) (hg : Gl X "enumerate") (hm : X.mg "enumerate" = none) (ha : PE X e (tE Z ea W)) (hs : starEach [e] X.env = [(false, eval e X.env)] := by rfl) :
    PI X (.Tuple elts kk tpos) (.Call (.Name "enumerate" p) [e] [] pos) (tI3 Z (iEnumL ea) W) := by
  obtain ⟨K, T, ec⟩ := Z
  obtain rfl : K = X.kw := hK
  refine PI.imp (pi_enum hg hm (pa3_cons (hx := hs) ha pa3_nil) hs) fun σ H R ⟨m, g, ρ, s, r, h⟩ => ⟨m, g, ρ, s, r, ?_⟩
  unfold iEnumL at h
  unfold aCons aNil
  cases e1 : ea ρ g with
  | bad => rw [e1] at h; exact h.elim
  | er x g1 => rw [e1] at h; exact h
  | ok d g1 =>
    rw [e1] at h
    simp only [Res.bind_ok] at h ⊢
    split at h
    · rename_i i
      split at h
      · rename_i ds e2
        intro m1 H1 vs x1 s1 r1
        obtain ⟨v, rfl, r2⟩ := reps1 r1
        have r3 := r2
        rw [DRep] at r3
        obtain ⟨a0, rfl, h0⟩ := r3
        obtain ⟨o, h2, h3⟩ := s1.at h0
        rw [e2] at h2; cases h2
        obtain ⟨xs, h4, h5⟩ := h3
        exact ⟨a0, xs, rfl, SqL.of h4, h m1 H1 (Ite X.K a0) x1 s1 (jrep_enum h0)⟩
      · exact h.elim
    · exact h.elim
end
section
variable {Q : Src → GH → Prop} {W : Exc → GH → Prop} {ρ : Rho} {g : GH}
@[simp] theorem wp_iEnumL (a : EV) : wp (iEnumL a ρ g) Q W = wp (a ρ g) (fun d g1 => ∃ i ds, d = .ref i ∧ g1[i]? = some (.lst ds) ∧ Q ⟨[(i, .lst ds)], enumD 0 ds⟩ g1) W := by
  simp only [iEnumL, wp_bind]
  congr 1
  funext d g1
  cases d with
  | ref i =>
    cases e : g1[i]? with
    | none => simp [e]
    | some o => cases o <;> simp [e]
  | _ => simp
end
/-! ### a tuple of texts and ints that the module binds -/
def vOf : D → V
  | .str s => .str s
  | .int i => .int i
  | _ => .non
def oneB (v : Value) (d : D) : Bool := match d with
  | .str z => (match v with
    | .str y _ => decide (y = z)
    | _ => false)
  | .int i => (match v with
    | .int j _ => decide (j = i)
    | _ => false)
  | _ => false
def itemsB : List Value → List D → Bool
  | [], [] => true
  | v :: r, d :: ds => oneB v d && itemsB r ds
  | _, _ => false
def tupS (K : PySem.W.Frag) (a : Addr) (ds : List D) : Bool := match K.lookup a with
  | some o => (match o.cls with
    | .type c => decide (c = "tuple")
    | _ => false) && (match o.data with
    | .seq its _ => decide (its.size ≤ 64) && itemsB its.toList ds
    | _ => false)
  | none => false
theorem oneB_rel {v : Value} {d : D} (h : oneB v d = true) : RelV (vOf d) v ∧ ∀ (K : KW) (m : List Addr) (H : Hp), DRep K m H d (vOf d) := by
  cases d with
  | str z =>
    cases v with
    | str y t =>
      simp [oneB] at h
      subst h
      exact ⟨⟨t, rfl⟩, fun _ _ _ => D.mk_str⟩
    | _ => cases h
  | int i =>
    cases v with
    | int j t =>
      simp [oneB] at h
      subst h
      exact ⟨⟨t, rfl⟩, fun _ _ _ => D.mk_int⟩
    | _ => cases h
  | _ => cases h
theorem itemsB_vals : ∀ (vs : List Value) (ds : List D), itemsB vs ds = true → Vals (ds.map vOf) vs ∧ ∀ (K : KW) (m : List Addr) (H : Hp), DReps K m H ds (ds.map vOf)
  | [], [], _ => ⟨.nil, fun _ _ _ => by show DReps _ _ _ [] []; rw [DReps]⟩
  | [], _ :: _, h => by cases h
  | _ :: _, [], h => by cases h
  | v :: r, d :: ds, h => by
    simp only [itemsB, Bool.and_eq_true] at h
    obtain ⟨h1, h2⟩ := h
    obtain ⟨a, b⟩ := oneB_rel h1
    obtain ⟨a2, b2⟩ := itemsB_vals r ds h2
    refine ⟨.cons a a2, fun K m H => ?_⟩
    show DReps _ _ _ (d :: ds) (vOf d :: ds.map vOf)
    rw [DReps]
    exact ⟨_, _, rfl, b K m H, b2 K m H⟩
theorem tupS_sq {K : PySem.W.Frag} {H : Hp} {a : Addr} {ds : List D} (h : tupS K a ds = true) : SqT K H a (ds.map vOf) ∧ ∀ (K : KW) (m : List Addr) (H : Hp), DReps K m H ds (ds.map vOf) := by
  unfold tupS at h
  split at h
  · rename_i o e
    simp only [Bool.and_eq_true] at h
    obtain ⟨h1, h2⟩ := h
    split at h1
    · rename_i c e1
      simp at h1
      subst h1
      split at h2
      · rename_i its n e2
        simp only [Bool.and_eq_true, decide_eq_true_eq] at h2
        obtain ⟨a1, a2⟩ := itemsB_vals _ _ h2.2
        refine ⟨.inr ⟨o, its, n, e, e1, e2, ?_, a1⟩, a2⟩
        have : (64 : Nat) ≤ sizeLine := by decide
        omega
      · cases h2
    · cases h1
  · cases h
theorem pe3_globT {X : Cx} {Z : Row} {W : WX} {pos : Pos} {x : Str} {a : Addr} {ds : List D} (hK : Z.K.K = X.K) (hg : Gl X x) (hm : X.mg x = some (.ref a)) (ht : tupS X.K a ds = true) (hd : (x == ("__debug__" : Str)) = false := by decide) : PE X (.Name x pos) (tE Z (eC (.tup ds)) W) :=
  pe3_glob (v := .ref a) hg hm rfl (fun m H => by
    rw [DRep]
    obtain ⟨h1, h2⟩ := tupS_sq (H := H) ht
    exact ⟨a, _, rfl, by rw [hK]; exact h1, h2 _ _ _⟩) hd
end L3

/-! L3p: lists as values (nobody writes them any more), and calls that leave nothing behind. -/
namespace L3
open PySem PySem.Spec PyProof.Rows L2

/-! ### from now on read only -/
def Lk : List Addr → (Hp → Prop) → Hp → Prop
  | [], Q, H => Q H
  | d :: ds, Q, H => ∃ u, H d = some u ∧ Mut (some u) ∧ ∀ od, Lk ds Q (upd H d (.frz od u))
theorem Lk.mono {Q Q' : Hp → Prop} (k : ∀ H, Q H → Q' H) : ∀ (ds : List Addr) (H : Hp), Lk ds Q H → Lk ds Q' H
  | [], H, h => k H h
  | d :: ds, H, ⟨u, h1, h2, h3⟩ => ⟨u, h1, h2, fun od => Lk.mono k ds _ (h3 od)⟩
section
variable {X : Cx}
theorem inv_lk {pins : List (Addr × Obj)} {σ : L2.St} {s : Shared} {Q : Hp → Prop} : ∀ (ds : List Addr) (H : Hp), Inv X pins σ H s → Lk ds Q H → ∃ H', Inv X pins σ H' s ∧ Q H'
  | [], H, I, h => ⟨H, I, h⟩
  | d :: ds, H, I, ⟨u, h1, h2, h3⟩ => by
    obtain ⟨od, I1⟩ := I.lock h1 h2
    exact inv_lk ds _ I1 (h3 od)
abbrev LkQ (Q : VK) : VK := fun v H => ∃ ds, Lk ds (Q v) H
theorem ep_lk {pins : List (Addr × Obj)} {σ : L2.St} {Q : VK} {u : Value} {s : Shared} (h : EP X pins σ (LkQ Q) u s) : EP X pins σ Q u s := by
  obtain ⟨v, H', I, r, ds, q⟩ := h
  obtain ⟨H2, I2, q2⟩ := inv_lk ds H' I q
  exact ⟨v, H2, I2, r, q2⟩
theorem PE.lk {e : Expr} {t : TE} (h : PE X e t) : PE X e (fun σ H Q => t σ H (LkQ Q)) := ⟨fun pins s σ H Q I q => thn (h.run pins s σ H _ I q) fun _ _ z => ep_lk z⟩
theorem OpR.lk {f : Value → Value → Sem Value} {r : R2} (h : OpR X f r) : OpR X f (fun x y H Q => r x y H (LkQ Q)) := fun pins s σ H x y v u Q I rx ry q => thn (h pins s σ H x y v u _ I rx ry q) fun _ _ z => ep_lk z
theorem CallR.lk {f : Value} {r : List V → Hp → VK → Prop} (h : CallR X f r) : CallR X f (fun xs H Q => r xs H (LkQ Q)) := fun pins s σ H xs us Q I rx q => thn (h pins s σ H xs us _ I rx q) fun _ _ z => ep_lk z
theorem SlR.lk {r : V → Option Int → Option Int → Hp → VK → Prop} (h : L2.SlR X r) : L2.SlR X (fun x lo hi H Q => r x lo hi H (LkQ Q)) := fun pins s σ H x v vl vu lo hi sl Q I rx hs pl pu q => by
  obtain ⟨T, id, h1, h2, h3⟩ := h pins s σ H x v vl vu lo hi sl _ I rx hs pl pu q
  exact ⟨T, id, h1, h2, thn h3 fun _ _ z => ep_lk z⟩
theorem PS.lk {st : Stmt} {t : TS} (h : PS X st t) : PS X st (fun D σ H => t ⟨fun σ' H' => ∃ ds, Lk ds (D.nx σ') H', LkQ D.rt, fun σ' H' => ∃ ds, Lk ds (D.bk σ') H', fun σ' H' => ∃ ds, Lk ds (D.ct σ') H'⟩ σ H) := ⟨fun pins s σ H D I q => thn (h.run pins s σ H _ I q) fun f s' z => by
  cases f with
  | next => obtain ⟨σ', H', I2, ds, q⟩ := z; obtain ⟨H2, I3, q2⟩ := inv_lk ds H' I2 q; exact ⟨σ', H2, I3, q2⟩
  | brk => obtain ⟨σ', H', I2, ds, q⟩ := z; obtain ⟨H2, I3, q2⟩ := inv_lk ds H' I2 q; exact ⟨σ', H2, I3, q2⟩
  | cont => obtain ⟨σ', H', I2, ds, q⟩ := z; obtain ⟨H2, I3, q2⟩ := inv_lk ds H' I2 q; exact ⟨σ', H2, I3, q2⟩
  | ret v => obtain ⟨x, σ', H', I2, r, ds, q⟩ := z; obtain ⟨H2, I3, q2⟩ := inv_lk ds H' I2 q; exact ⟨x, σ', H2, I3, r, q2⟩⟩
end

/-! ### new list values -/
section
variable {K : KW} {T : List (Addr × Str)} {m : List Addr} {H : Hp} {g : GH} {ds : List D} {vs : List V} {p : Addr}
theorem frz_new (s : S K T m g H) (r : DReps K m H ds vs) (hp : H p = none) (od : Obj) :
    Ext m H m (upd H p (.frz od (.lst vs))) ∧ S K T m g (upd H p (.frz od (.lst vs))) ∧ DRep K m (upd H p (.frz od (.lst vs))) (.rol ds) (.ref p) := by
  obtain ⟨e, s2⟩ := s.laid (u := .frz od (.lst vs)) hp
  refine ⟨e, s2, ?_⟩
  rw [DRep]
  exact ⟨p, vs, rfl, ⟨od, upd_same⟩, DReps.mono e _ _ r⟩
/-- a list just made becomes a value -/
theorem lk_new (s : S K T m g H) (r : DReps K m H ds vs) (hp : H p = none) {Q : VK} {W : Exc → List Addr → Hp → Prop} (h : Post K T (fun m H d v => DRep K m H d v) (.ok (.rol ds) g) m H Q W) : LkQ Q (.ref p) (upd H p (.lst vs)) := by
  refine ⟨[p], _, upd_same, True.intro, fun od => ?_⟩
  rw [upd_upd]
  obtain ⟨e, s2, r2⟩ := frz_new s r hp od
  exact h m _ _ e s2 r2
end
/-- the items of a list that may be copied: a list value, or an own list -/
def lstV (g : GH) : D → Option (List D)
  | .rol ds => some ds
  | .ref i => match g[i]? with
    | some (.lst ds) => some ds
    | _ => none
  | _ => none
theorem lstV_at {K : KW} {T : List (Addr × Str)} {m : List Addr} {g : GH} {H : Hp} {d : D} {ds : List D} {v : V} (s : S K T m g H) (h : DRep K m H d v) (e : lstV g d = some ds) :
    ∃ p xs, v = .ref p ∧ Rd H p (.lst xs) ∧ DReps K m H ds xs := by
  unfold lstV at e
  cases d with
  | rol es =>
    simp at e
    subst e
    rw [DRep] at h
    obtain ⟨p, xs, rfl, h1, h2⟩ := h
    exact ⟨p, xs, rfl, h1.rd, h2⟩
  | ref i =>
    simp only at e
    split at e
    · rename_i es e1
      cases e
      obtain ⟨p, xs, rfl, _, h2, h3⟩ := lst_at s h e1
      exact ⟨p, xs, rfl, .inl h2, h3⟩
    · cases e
  | _ => cases e
/-- a list, or a tuple -/
def seqV (g : GH) : D → Option (List D)
  | .tup ds => some ds
  | d => lstV g d
theorem seqV_at {K : KW} {T : List (Addr × Str)} {m : List Addr} {g : GH} {H : Hp} {d : D} {ds : List D} {v : V} (s : S K T m g H) (h : DRep K m H d v) (e : seqV g d = some ds) :
    ∃ p xs, v = .ref p ∧ (SqL K.K H p xs ∨ SqT K.K H p xs) ∧ DReps K m H ds xs := by
  have key : ∀ d, DRep K m H d v → lstV g d = some ds → ∃ p xs, v = .ref p ∧ (SqL K.K H p xs ∨ SqT K.K H p xs) ∧ DReps K m H ds xs := fun d h e => by
    obtain ⟨p, xs, e1, h1, h2⟩ := lstV_at s h e
    exact ⟨p, xs, e1, .inl (.inl h1), h2⟩
  cases d with
  | tup es =>
    cases e
    rw [DRep] at h
    obtain ⟨p, xs, e1, h1, h2⟩ := h
    exact ⟨p, xs, e1, .inr h1, h2⟩
  | _ => exact key _ h e
def opAddV : F2 := fun d e g => match lstV g d, lstV g e with
  | some a, some b => if a.length + b.length ≤ 16777216 then some (.rol (a ++ b), g) else none
  | _, _ => opAdd d e g
def eMulV (as : AV) (b : EV) : EV := fun ρ g => (as ρ g).bind fun ds g1 => if ds.length ≤ 16777216 then (b ρ g1).bind fun e g2 => match e with
  | .int k => if 0 ≤ k ∧ k ≤ 1000000 ∧ ds.length * k.toNat ≤ 16777216 then .ok (.rol (List.replicate k.toNat ds).flatten) g2 else .bad
  | _ => .bad else .bad
def opSlV (d : D) (lo hi : Option Int) (g : GH) : Option (D × GH) := match lstV g d with
  | some ds => some (.rol (cutD ds lo hi), g)
  | none => opSl d lo hi g
def eSlV (a : EV) (lo hi : OV) : EV := fun ρ g => (a ρ g).bind fun d g1 => (lo ρ g1).bind fun l g2 => (hi ρ g2).bind fun h g3 => liftO (opSlV d l h g3)
def fListV : FN := fun xs g => match xs with
  | [d] => (seqV g d).map fun ds => (.rol ds, g)
  | _ => none
def eLstV (as : AV) : EV := fun ρ g => (as ρ g).bind fun ds g1 => if ds.length ≤ 16777216 then .ok (.rol ds) g1 else .bad
def eLstRgV (a : EV) : EV := fun ρ g => (a ρ g).bind fun d g1 => match d with
  | .int n => if n ≤ 1000000 ∧ -1000000 ≤ n then .ok (.rol (rangeD 0 n)) g1 else .bad
  | _ => .bad
def eLstRgV2 (a b : EV) : EV := fun ρ g => (a ρ g).bind fun d g1 => (b ρ g1).bind fun e g2 => match d, e with
  | .int n, .int k => if (n ≤ 1000000 ∧ -1000000 ≤ n) ∧ k ≤ 1000000 ∧ -1000000 ≤ k then .ok (.rol (rangeD n k)) g2 else .bad
  | _, _ => .bad
def eCompV (src : IV) (t : T3) (test : TV) (elt : EV) (own : List Nat) : EV := fun ρ g => (src ρ g).bind fun s g1 => if s.items.length < 16777216 then (compL s.deps t test elt (wipeR ρ own) s.items g1).bind fun ys g2 => .ok (.rol ys) g2 else .bad

section
variable {X : Cx} {Z : Row} {W : WX} {pos : Pos} {a b c : Expr} {ea eb ecc : EV} {es : List Expr} {as : AV}
theorem pe3_lstV (h : PA X es (tA3 Z as W)) : PE X (.List es pos) (tE Z (eLstV as) W) :=
  (PE.lk (pe_lst h)).imp fun σ H Q ⟨m, g, ρ, s, r, h⟩ => ⟨m, g, ρ, s, r, Post.bind h fun m1 H1 ds vs g1 e1 s1 r1 h1 => by
    split at h1
    · rename_i hl
      exact ⟨len_line r1 hl, fun p hp => lk_new s1 r1 hp (W := WofX Z W σ) (Post.ext h1 .refl)⟩
    · exact h1.elim⟩
/-- a new list from two that stand -/
theorem op_catV {x y : Addr} {xs zs : List V} {v u : Value} {pins : List (Addr × Obj)} {σ : L2.St} {H : Hp} {s : Shared} {Q : VK} (I : Inv X pins σ H s) (rx : RelV (.ref x) v) (ry : RelV (.ref y) u) (h1 : Rd H x (.lst xs)) (h2 : Rd H y (.lst zs))
    (hz : xs.length + zs.length ≤ sizeLine) (q : ∀ p, H p = none → Q (.ref p) (upd H p (.lst (xs ++ zs)))) : wpAny (model X.prog X.w) X.A (binaryOp .Add v u) (EP X pins σ Q) X.xe s := by
  cases rx
  cases ry
  obtain ⟨z1, i1, n1, r1, e1⟩ := h1.ok I.hok
  obtain ⟨z2, i2, n2, r2, e2⟩ := h2.ok I.hok
  have l1 := r1.length
  have l2 := r2.length
  refine PySem.P.add_list e1 e2 ?_ (by simp only [List.size_toArray]; omega)
  have ea : i1.toArray ++ i2.toArray = (i1 ++ i2).toArray := by simp
  rw [ea]
  exact ⟨.ref _, _, I.lnew (t' := s.toks) (r1.append r2) (by simp; omega), rfl, q _ I.fresh⟩
theorem o_addV (hK : Z.K = X.kw) : OpR X (binaryOp .Add) (r2 Z opAddV) := by
  intro pins st σ H x y v u Q I rx ry ⟨m, g, d, e, s, hd, he, h⟩
  unfold opAddV at h
  split at h
  · rename_i a b e1 e2
    split at h
    · rename_i hl
      obtain ⟨p, xs, rfl, h1, h2⟩ := lstV_at s hd e1
      obtain ⟨q, ys, rfl, h3, h4⟩ := lstV_at s he e2
      refine thn (op_catV (Q := LkQ Q) I rx ry h1 h3 (by rw [← h2.length, ← h4.length, sizeLine_eq]; exact hl) fun p hp => ?_) fun _ _ z => ep_lk z
      exact lk_new s (h2.append h4) hp h
    · exact h.elim
  · exact o_add hK pins st σ H x y v u Q I rx ry ⟨m, g, d, e, s, hd, he, h⟩
/-- [..] * k -/
theorem pe3_mulV (hK : Z.K = X.kw) (h : PA X es (tA3 Z as W)) (hb : PE X b (tE Z eb W)) {p2 : Pos} : PE X (.BinOp (.List es p2) .Mult b pos) (tE Z (eMulV as eb) W) := by
  obtain ⟨K, T, ec⟩ := Z
  obtain rfl : K = X.kw := hK
  refine (PE.lk (pe_op op_rep (pe_lst h) hb)).imp fun σ H Q ⟨m, g, ρ, s, r, h⟩ => ⟨m, g, ρ, s, r, Post.bind h fun m1 H1 ds vs g1 e1 s1 r1 h1 => ?_⟩
  split at h1
  · rename_i hl
    refine ⟨len_line r1 hl, fun p hp => ?_⟩
    obtain ⟨e2, s2⟩ := s1.laid (u := .lst vs) hp
    have np : p ∉ m1 := s1.none_mem hp
    refine ⟨m1, g1, ρ, s2, (r.mono e1).mono e2, Post.bind (Post.ext h1 e2) fun m3 H3 d v g3 e3 s3 r3 h3 => ?_⟩
    split at h3
    · rename_i k
      split at h3
      · rename_i hk
        cases D.int_inv r3
        have hp3 : H3 p = some (.lst vs) := e3.keep _ _ upd_same np (fun ps z => by cases z)
        have r13 := DReps.mono e3 _ _ (DReps.mono e2 _ _ r1)
        refine ⟨p, k, vs, rfl, rfl, hp3, by omega, by omega, by rw [← r1.length, sizeLine_eq]; exact hk.2.2, fun q hq => ?_⟩
        exact lk_new s3 (r13.flat _) hq h3
      · exact h3.elim
    · exact h3.elim
  · exact h1.elim
theorem pe3_slV {lo hi : Option Expr} {p2 : Pos} {ol oh : OV} (hK : Z.K = X.kw) (ha : PE X a (tE Z ea W)) (hl : L2.PO X lo (tO3 Z ol W)) (hh : L2.PO X hi (tO3 Z oh W)) : PE X (.Subscript a (.Slice lo hi none p2) pos) (tE Z (eSlV ea ol oh) W) := by
  have rule : L2.SlR X (fun x lo hi H Q => ∃ m g d, S Z.K Z.T m g H ∧ DRep Z.K m H d x ∧ Post Z.K Z.T (RD Z) (liftO (opSlV d lo hi g)) m H Q W0) := by
    intro pins st σ H x v vl vu lo hi sl Q I rx hs pl pu ⟨m, g, d, s, hd, h⟩
    unfold opSlV at h
    split at h
    · rename_i ds e1
      obtain ⟨p, xs, rfl, h1, h2⟩ := lstV_at s hd e1
      refine SlR.lk sl_list pins st σ H _ v vl vu lo hi sl Q I rx hs pl pu ⟨p, xs, rfl, .inl h1, fun p hp => ?_⟩
      exact lk_new s (cut_reps h2 lo hi) hp h
    · exact sl_3 hK pins st σ H x v vl vu lo hi sl Q I rx hs pl pu ⟨m, g, d, s, hd, h⟩
  exact (pe_slice rule ha hl hh).imp fun σ H Q ⟨m, g, ρ, s, r, h⟩ => ⟨m, g, ρ, s, r, Post.bind h fun m1 H1 d v g1 e1 s1 r1 h1 =>
    ⟨m1, g1, ρ, s1, r.mono e1, Post.bind h1 fun m2 H2 l l' g2 e2 s2 r2 h2 => ⟨m2, g2, ρ, s2, (r.mono e1).mono e2, Post.bind h2 fun m3 H3 k k' g3 e3 s3 r3 h3 => by
      cases r2; cases r3
      exact ⟨m3, g3, d, s3, (r1.mono e2).mono e3, h3.lift⟩⟩⟩⟩
theorem c_listV (hK : Z.K = X.kw) : CallR X (.type "list") (rN Z fListV) := by
  obtain ⟨K, T, ec⟩ := Z
  obtain rfl : K = X.kw := hK
  intro pins st σ H xs us Q I rx ⟨m, g, ds, s, hd, h⟩
  unfold fListV at h
  split at h
  · obtain ⟨v, rfl, h1⟩ := reps1 hd
    cases e : seqV g _ with
    | none => rw [e] at h; exact h.elim
    | some es =>
      rw [e] at h
      obtain ⟨p, ys, rfl, h2, h3⟩ := seqV_at s h1 e
      refine CallR.lk call_list_of pins st σ H _ us Q I rx ⟨p, ys, rfl, h2, fun p hp => ?_⟩
      exact lk_new s h3 hp h
  · exact h.elim
theorem rgD_reps {K : KW} {m : List Addr} {H : Hp} (a b : Int) : DReps K m H (rangeD a b) (rgV a b) := by
  unfold rangeD rgV
  generalize List.range (b - a).toNat = l
  induction l with
  | nil => show DReps K m H [] []; rw [DReps]
  | cons k l ih =>
    show DReps K m H (_ :: _) (_ :: _)
    rw [DReps]
    exact ⟨_, _, rfl, D.mk_int, ih⟩
theorem pe3_lrgV {p pos p2 pos2 : Pos} (hK : Z.K = X.kw) (hc : X.calm = true) (hg : Gl X "list") (hm : X.mg "list" = none) (hg2 : Gl X "range") (hm2 : X.mg "range" = none) (ha : PE X a (tE Z ea W))
    (hs : starEach [a] X.env = (false, eval a X.env) :: starEach [] X.env := by rfl) (hs2 : starEach [.Call (.Name "range" p2) [a] [] pos2] X.env = (false, eval (.Call (.Name "range" p2) [a] [] pos2) X.env) :: starEach [] X.env := by rfl) :
    PE X (.Call (.Name "list" p) [.Call (.Name "range" p2) [a] [] pos2] [] pos) (tE Z (eLstRgV ea) W) := by
  obtain ⟨K, T, ec⟩ := Z
  obtain rfl : K = X.kw := hK
  refine (PE.lk (pe_listRg hc hg hm (prg_1 hg2 hm2 ha hs) hs2)).imp fun σ H Q ⟨m, g, ρ, s, r, h⟩ => ⟨m, g, ρ, s, r, Post.bind h fun m1 H1 d v g1 e1 s1 r1 h1 => ?_⟩
  split at h1
  · rename_i n
    split at h1
    · rename_i hn
      refine ⟨n, D.int_inv r1, ⟨by omega, by omega, by omega, by omega, by omega⟩, fun q hq => ?_⟩
      exact lk_new s1 (rgD_reps 0 n) hq h1
    · exact h1.elim
  · exact h1.elim
theorem pe3_lrgV2 {p pos p2 pos2 : Pos} (hK : Z.K = X.kw) (hc : X.calm = true) (hg : Gl X "list") (hm : X.mg "list" = none) (hg2 : Gl X "range") (hm2 : X.mg "range" = none) (ha : PE X a (tE Z ea W)) (hb : PE X b (tE Z eb W))
    (hs : starEach [a, b] X.env = (false, eval a X.env) :: starEach [b] X.env := by rfl) (hs1 : starEach [b] X.env = (false, eval b X.env) :: starEach [] X.env := by rfl) (hp : (backTo pos2 (starEach [b] X.env)).any (·.1) = false := by rfl)
    (hs2 : starEach [.Call (.Name "range" p2) [a, b] [] pos2] X.env = (false, eval (.Call (.Name "range" p2) [a, b] [] pos2) X.env) :: starEach [] X.env := by rfl) :
    PE X (.Call (.Name "list" p) [.Call (.Name "range" p2) [a, b] [] pos2] [] pos) (tE Z (eLstRgV2 ea eb) W) := by
  obtain ⟨K, T, ec⟩ := Z
  obtain rfl : K = X.kw := hK
  refine (PE.lk (pe_listRg hc hg hm (prg_2 hg2 hm2 ha hb hs hs1 hp) hs2)).imp fun σ H Q ⟨m, g, ρ, s, r, h⟩ => ⟨m, g, ρ, s, r, Post.bind h fun m1 H1 d v g1 e1 s1 r1 h1 => ⟨m1, g1, ρ, s1, r.mono e1, Post.bind h1 fun m2 H2 d2 v2 g2 e2 s2 r2 h2 => ?_⟩⟩
  split at h2
  · rename_i n k
    split at h2
    · rename_i hn
      refine ⟨n, k, D.int_inv r1, D.int_inv r2, ⟨by omega, by omega, by omega, by omega, by omega⟩, fun q hq => ?_⟩
      exact lk_new s2 (rgD_reps n k) hq h2
    · exact h2.elim
  · exact h2.elim
end
/-! ### comprehensions whose list is a value -/
theorem S.otherU {K : KW} {T : List (Addr × Str)} {m : List Addr} {H : Hp} {g : GH} (s : S K T m g H) {p : Addr} {xs : List V} {u : HO} (hp : H p = some (.lst xs)) (np : p ∉ m) : S K T m g (upd H p u) ∧ ∀ ds vs, DReps K m H ds vs → DReps K m (upd H p u) ds vs := by
  have ht : ∀ b zs, H b = some (.tup zs) → upd H p u b = some (.tup zs) := fun b zs h => by rw [upd_ne]; exact h; rintro rfl; rw [hp] at h; cases h
  have hf : ∀ b o v, H b = some (.frz o v) → upd H p u b = some (.frz o v) := fun b o v h => by rw [upd_ne]; exact h; rintro rfl; rw [hp] at h; cases h
  refine ⟨⟨s.nod, s.len, fun i a o h1 h2 => ?_, tabs_keep s.tab fun b o h n => ?_⟩, DReps.mono0 (fun _ _ h => h) ht hf⟩
  · refine (s.obj i a o h1 h2).mono0 (fun _ _ h => h) ht hf fun v h => ?_
    rw [upd_ne]
    · exact h
    · rintro rfl
      exact np (List.mem_of_getElem? h1)
  · rw [upd_ne]
    · exact h
    · rintro rfl
      rw [hp] at h
      cases h
      exact n trivial
section
variable {X : Cx} {Z : Row} {W : WX} {pos : Pos} {tg iter elt : Expr} {ee : EV} {tt : TV} {iv : IV} {t : T3} {ifs : List Expr} {scope : Scope} {own : List (Str × Nat)}
theorem lcV {σ : L2.St} {H : Hp} {Q : VK} (hl : σ.length = X.N.length) (hs : ∀ i ∈ t.slots, i < X.N.length) (ho : ∀ i ∈ t.slots, i ∈ own.map (·.2)) (h : tE ⟨X.kw, Z.T, Z.ec⟩ (eCompV iv t tt ee (own.map (·.2))) W σ H Q) :
    tLc (tI3 ⟨X.kw, Z.T, Z.ec⟩ iv W) (gOf X.K t) (tT ⟨X.kw, Z.T, Z.ec⟩ tt (fun _ _ _ _ => False)) (tE ⟨X.kw, Z.T, Z.ec⟩ ee (fun _ _ _ _ => False)) (own.map (·.2)) σ H (LkQ Q) := by
  refine lcG (Z := Z) (W := W) (Q := Q) (Q' := LkQ Q) (fin := fun ys g2 => Res.ok (D.rol ys) g2) hl hs ho (fun m1 H1 m2 H2 g2 D0 acc accV s2 e2 hD hD2 nD ra h2 => ?_) h
  refine ⟨[D0], _, hD2, True.intro, fun od => ?_⟩
  obtain ⟨s3, k3⟩ := s2.otherU (u := .frz od (.lst accV)) hD2 nD
  refine h2 m2 _ (.ref D0) ?_ s3 ?_
  · refine ⟨e2.pre, fun b xs h => ?_, fun b o u h => ?_, fun b o h n nt => ?_, fun b h o q => ?_⟩
    · rw [upd_ne]; exact e2.tups b xs h; rintro rfl; rw [hD] at h; cases h
    · rw [upd_ne]; exact e2.frzs b o u h; rintro rfl; rw [hD] at h; cases h
    · rw [upd_ne]; exact e2.keep b o h n nt; rintro rfl; rw [hD] at h; cases h
    · by_cases hb : b = D0
      · rw [hb, hD] at q; cases q
      · exact e2.dom b (fun o' q' => h o' (by rw [upd_ne hb]; exact q')) o q
  · show DRep _ _ _ (.rol acc) _
    rw [DRep]
    exact ⟨D0, accV, rfl, ⟨od, upd_same⟩, k3 _ _ ra⟩
theorem pe3_lcV (hK : Z.K = X.kw) (hc : X.calm = true) (hN : X.N.Nodup) (hi : PI X tg iter (tI3 Z iv W)) (ok : BlkOk X.N X.env.scope scope own) (hs : ∀ i ∈ t.slots, i < X.N.length) (ho : ∀ i ∈ t.slots, i ∈ own.map (·.2))
    (hg : ∀ (s : Shared) (H : Hp) (C : Addr) (cl : List (Str × Addr)) (fp : List Addr), PG (X.blk s H scope (compEnvC scope cl C X.env) fp) tg (gOf X.K t))
    (ht : ∀ (s : Shared) (H : Hp) (C : Addr) (cl : List (Str × Addr)) (fp : List Addr), PTs (X.blk s H scope (compEnvC scope cl C X.env) fp) ifs (tT Z tt WN))
    (he : ∀ (s : Shared) (H : Hp) (C : Addr) (cl : List (Str × Addr)) (fp : List Addr), PE (X.blk s H scope (compEnvC scope cl C X.env) fp) elt (tE Z ee WN)) (hf : ∀ x, foldedSetIterable iter X.env x = pure x := by intro _; rfl) :
    PE X (.ListComp elt [⟨tg, iter, ifs, 0⟩] scope pos) (tE Z (eCompV iv t tt ee (own.map (·.2))) W) := by
  obtain ⟨K, T, ec⟩ := Z
  obtain rfl : K = X.kw := hK
  exact ⟨fun pins s σ H Q I q => (PE.lk (pe_lc hc hN hi ok hg ht he hf)).run pins s σ H Q I (lcV (Z := ⟨X.kw, T, ec⟩) I.len hs ho q)⟩
theorem ps3_setLcV {i : Nat} {y : Str} {py spos : Pos} (hK : Z.K = X.kw) (hc : X.calm = true) (hN : X.N.Nodup) (hy : X.N[i]? = some y) (hyl : X.env.scope.names.lookup y = some .local)
    (hsw : swapsWith (.ListComp elt [⟨tg, iter, ifs, 0⟩] scope pos) (some (.Name y py)) spos.line X.env = pure true) (hi : PI X tg iter (tI3 Z iv W)) (ok : BlkOk X.N X.env.scope scope own) (hs : ∀ i ∈ t.slots, i < X.N.length) (ho : ∀ i ∈ t.slots, i ∈ own.map (·.2))
    (hg : ∀ (s : Shared) (H : Hp) (C : Addr) (cl : List (Str × Addr)) (fp : List Addr), PG (X.blk s H scope (compEnvC scope cl C X.env) fp) tg (gOf X.K t))
    (ht : ∀ (s : Shared) (H : Hp) (C : Addr) (cl : List (Str × Addr)) (fp : List Addr), PTs (X.blk s H scope (compEnvC scope cl C X.env) fp) ifs (tT Z tt WN))
    (he : ∀ (s : Shared) (H : Hp) (C : Addr) (cl : List (Str × Addr)) (fp : List Addr), PE (X.blk s H scope (compEnvC scope cl C X.env) fp) elt (tE Z ee WN)) (hf : ∀ x, foldedSetIterable iter X.env x = pure x := by intro _; rfl) :
    PS X (.Assign [.Name y py] (.ListComp elt [⟨tg, iter, ifs, 0⟩] scope pos) spos) (tS Z (sAsg (.one i) (eCompV iv t tt ee (own.map (·.2)))) W) := by
  obtain ⟨K, T, ec⟩ := Z
  obtain rfl : K = X.kw := hK
  refine (PS.lk (ps_setLc hc hN hy hyl hsw hi ok hg ht he hf)).imp fun D σ H hl ⟨m, g, ρ, s, r, h⟩ => ?_
  show tLc _ _ _ _ _ σ H (LkQ fun x H1 => D.nx (σ.set i (some x)) H1)
  refine lcV (Z := ⟨X.kw, T, ec⟩) hl hs ho ⟨m, g, ρ, s, r, PostS.bind h r fun m1 H1 d v g1 e1 s1 r1 h1 => ?_⟩
  exact h1 m1 H1 _ .refl s1 (by simp) ((r.mono e1).set (by rw [hl]; exact (List.getElem?_eq_some_iff.mp hy).1) r1)
end
/-! ### a call that leaves nothing behind -/
mutual
/-- no object from n on is in it -/
def clD (n : Nat) : D → Bool
  | .tup ds => clDs n ds
  | .rol ds => clDs n ds
  | .scr ds => clDs n ds
  | .ref i => decide (i < n)
  | _ => true
def clDs (n : Nat) : List D → Bool
  | [] => true
  | d :: ds => clD n d && clDs n ds
end
def clP (n : Nat) : List (D × D) → Bool
  | [] => true
  | (k, d) :: r => clD n k && clD n d && clP n r
def clO (n : Nat) : GO → Bool
  | .lst ds => clDs n ds
  | .iset _ => true
  | .dct kvs => clP n kvs
  | .dcf kvs => clP n kvs
  | .dkn _ => true
/-- the objects of g stand in g1: as they were, or with nothing new in them -/
def keepOk (n : Nat) : GH → GH → Bool
  | [], _ => true
  | _ :: _, [] => false
  | o :: g, o' :: g' => (sameO o o' || clO n o') && keepOk n g g'
/-- lists made since become values -/
def fzD (g : GH) (n : Nat) : Nat → D → Option D
  | 0, _ => none
  | k + 1, d => match d with
    | .ref i => if i < n then some (.ref i) else match g[i]? with
      | some (.lst ds) => (ds.mapM (fzD g n k)).map .rol
      | _ => none
    | .tup ds => (ds.mapM (fzD g n k)).map .tup
    | .rol ds => (ds.mapM (fzD g n k)).map .rol
    | .scr ds => if clDs n ds then some (.scr ds) else none
    | d => some d
def exCl (n : Nat) : Exc → Bool
  | .own _ => true
  | .lim _ x => clD n x
def gc (F : List D → GH → Res D) : List D → GH → Res D := fun ds g => match F ds g with
  | .ok d g1 => if keepOk g.length g g1 then match fzD g1 g.length 16 d with
    | some d' => .ok d' (g1.take g.length)
    | none => .bad else .bad
  | .er e g1 => if keepOk g.length g g1 && exCl g.length e then .er e (g1.take g.length) else .bad
  | .bad => .bad
section
variable {K : KW} {m m' m0 : List Addr} {H H' : Hp}
mutual
theorem drep_cl : ∀ (d : D) (v : V), DRep K m H d v → clD m.length d = true
  | .non, _, _ => by simp [clD]
  | .bl _, _, _ => by simp [clD]
  | .int _, _, _ => by simp [clD]
  | .str _, _, _ => by simp [clD]
  | .tup ds, v, h => by rw [DRep] at h; obtain ⟨_, xs, _, _, h⟩ := h; simpa [clD] using dreps_cl ds xs h
  | .rol ds, v, h => by rw [DRep] at h; obtain ⟨_, xs, _, _, h⟩ := h; simpa [clD] using dreps_cl ds xs h
  | .scr ds, v, h => by rw [DRep] at h; obtain ⟨_, xs, _, _, h⟩ := h; simpa [clD] using dreps_cl ds xs h
  | .ref i, v, h => by rw [DRep] at h; obtain ⟨_, _, h⟩ := h; simpa [clD] using (List.getElem?_eq_some_iff.mp h).1
theorem dreps_cl : ∀ (ds : List D) (vs : List V), DReps K m H ds vs → clDs m.length ds = true
  | [], _, _ => by simp [clDs]
  | d :: ds, vs, h => by
    rw [DReps] at h
    obtain ⟨v, r, _, h1, h2⟩ := h
    simp [clDs, drep_cl d v h1, dreps_cl ds r h2]
end
mutual
/-- what has no new object in it lies so with the old ones alone -/
theorem drep_back (hm : ∀ (i : Nat) a, i < m0.length → m[i]? = some a → m0[i]? = some a) (ht : ∀ b xs, H b = some (.tup xs) → H' b = some (.tup xs)) (hf : ∀ b o u, H b = some (.frz o u) → H' b = some (.frz o u)) : ∀ (d : D) (v : V), clD m0.length d = true → DRep K m H d v → DRep K m0 H' d v
  | .non, _, _, h => by simpa [DRep] using h
  | .bl _, _, _, h => by simpa [DRep] using h
  | .int _, _, _, h => by simpa [DRep] using h
  | .str _, _, _, h => by simpa [DRep] using h
  | .tup ds, v, c, h => by
    rw [DRep] at h ⊢
    obtain ⟨a, xs, h1, h2, h3⟩ := h
    exact ⟨a, xs, h1, sqT_keep ht hf h2, dreps_back hm ht hf ds xs (by simpa [clD] using c) h3⟩
  | .rol ds, v, c, h => by
    rw [DRep] at h ⊢
    obtain ⟨a, xs, h1, h2, h3⟩ := h
    exact ⟨a, xs, h1, roL_keep hf h2, dreps_back hm ht hf ds xs (by simpa [clD] using c) h3⟩
  | .scr ds, v, c, h => by
    rw [DRep] at h ⊢
    obtain ⟨a, xs, h1, h2, h3⟩ := h
    exact ⟨a, xs, h1, scL_keep hf h2, dreps_back hm ht hf ds xs (by simpa [clD] using c) h3⟩
  | .ref i, v, c, h => by
    rw [DRep] at h ⊢
    obtain ⟨a, h1, h2⟩ := h
    exact ⟨a, h1, hm i a (by simpa [clD] using c) h2⟩
theorem dreps_back (hm : ∀ (i : Nat) a, i < m0.length → m[i]? = some a → m0[i]? = some a) (ht : ∀ b xs, H b = some (.tup xs) → H' b = some (.tup xs)) (hf : ∀ b o u, H b = some (.frz o u) → H' b = some (.frz o u)) : ∀ (ds : List D) (vs : List V), clDs m0.length ds = true → DReps K m H ds vs → DReps K m0 H' ds vs
  | [], _, _, h => by simpa [DReps] using h
  | d :: ds, vs, c, h => by
    rw [DReps] at h ⊢
    obtain ⟨v, r, h1, h2, h3⟩ := h
    simp only [clDs, Bool.and_eq_true] at c
    exact ⟨v, r, h1, drep_back hm ht hf d v c.1 h2, dreps_back hm ht hf ds r c.2 h3⟩
end
theorem pair_back (f : ∀ d v, clD m0.length d = true → DRep K m H d v → DRep K m0 H' d v) : ∀ (kvs : List (D × D)) (xs : List (NestedKey × Addr × Value)), clP m0.length kvs = true → PairD K m H kvs xs → PairD K m0 H' kvs xs
  | [], _, _, h => h
  | (k, d) :: kvs, xs, c, ⟨key, b, v, vv, r, e, h1, h2, h3, h4, h5, h6⟩ => by
    simp only [clP, Bool.and_eq_true] at c
    exact ⟨key, b, v, vv, r, e, h1, h2, f _ _ c.1.1 h3, h4, f _ _ c.1.2 h5, pair_back f kvs r c.2 h6⟩
theorem pair_cl : ∀ (kvs : List (D × D)) (xs : List (NestedKey × Addr × Value)), PairD K m H kvs xs → clP m.length kvs = true
  | [], _, _ => rfl
  | (k, d) :: kvs, xs, ⟨key, b, v, vv, r, e, h1, h2, h3, h4, h5, h6⟩ => by simp [clP, drep_cl _ _ h3, drep_cl _ _ h5, pair_cl kvs r h6]
theorem orep_cl {o : GO} {a : Addr} (h : ORep K m H o a) : clO m.length o = true := by
  cases o with
  | lst ds => obtain ⟨xs, _, h⟩ := h; exact dreps_cl ds xs h
  | iset _ => rfl
  | dkn _ => rfl
  | dct kvs => obtain ⟨xs, _, h, _⟩ := h; exact pair_cl kvs xs h
  | dcf kvs => obtain ⟨xs, _, _, h, _⟩ := h; exact pair_cl kvs xs h
theorem orep_back {o : GO} {a : Addr} (c : clO m0.length o = true) (hm : ∀ (i : Nat) a, i < m0.length → m[i]? = some a → m0[i]? = some a) (ht : ∀ b xs, H b = some (.tup xs) → H' b = some (.tup xs)) (hf : ∀ b o u, H b = some (.frz o u) → H' b = some (.frz o u))
    (ha : ∀ u, H a = some u → H' a = some u) (h : ORep K m H o a) : ORep K m0 H' o a := by
  cases o with
  | lst ds => obtain ⟨xs, h1, h2⟩ := h; exact ⟨xs, ha _ h1, dreps_back hm ht hf ds xs c h2⟩
  | iset _ => exact ⟨ha _ h.1, h.2⟩
  | dkn _ => obtain ⟨kvs, h1, h2⟩ := h; exact ⟨kvs, ha _ h1, h2⟩
  | dct kvs => obtain ⟨xs, h1, h2, h3⟩ := h; exact ⟨xs, ha _ h1, pair_back (drep_back hm ht hf) kvs xs c h2, h3⟩
  | dcf kvs => obtain ⟨xs, o, h1, h2, h3⟩ := h; exact ⟨xs, o, ha _ h1, pair_back (drep_back hm ht hf) kvs xs c h2, h3⟩
theorem keepOk_at {n : Nat} : ∀ {g g1 : GH}, keepOk n g g1 = true → g.length ≤ g1.length ∧ ∀ (i : Nat) o, i < g.length → g1[i]? = some o → g[i]? = some o ∨ clO n o = true
  | [], _, _ => ⟨Nat.zero_le _, fun i o h => absurd h (Nat.not_lt_zero _)⟩
  | _ :: _, [], h => by cases h
  | o :: g, o' :: g', h => by
    simp only [keepOk, Bool.and_eq_true, Bool.or_eq_true] at h
    obtain ⟨l, k⟩ := keepOk_at h.2
    refine ⟨by simpa using l, fun i u hi e => ?_⟩
    cases i with
    | zero =>
      simp at e
      subst e
      rcases h.1 with z | z
      · left; rw [sameO_eq _ _ z]; rfl
      · right; exact z
    | succ i => simpa using k i u (by simpa using hi) (by simpa using e)
/-- many lists at once -/
theorem lk_all {Q : Hp → Prop} : ∀ (ds : List Addr) (H : Hp), ds.Nodup → (∀ a ∈ ds, ∃ u, H a = some u ∧ Mut (some u)) → (∀ H', (∀ a ∈ ds, ∃ od u, H a = some u ∧ H' a = some (.frz od u)) → (∀ b, b ∉ ds → H' b = H b) → Q H') → Lk ds Q H
  | [], H, _, _, h => h H (fun a ha => by cases ha) fun _ _ => rfl
  | d :: ds, H, hn, hm, h => by
    obtain ⟨n1, n2⟩ := List.nodup_cons.mp hn
    obtain ⟨u, hu, mu⟩ := hm d (by simp)
    refine ⟨u, hu, mu, fun od => lk_all ds _ n2 (fun a ha => ?_) fun H' h1 h2 => ?_⟩
    · obtain ⟨w, hw, mw⟩ := hm a (by simp [ha])
      have hne : a ≠ d := by rintro rfl; exact n1 ha
      exact ⟨w, by rw [upd_ne hne]; exact hw, mw⟩
    · refine h H' (fun a ha => ?_) fun b hb => ?_
      · rcases List.mem_cons.mp ha with e | ha2
        · subst e
          exact ⟨od, u, hu, by rw [h2 _ n1, upd_same]⟩
        · obtain ⟨od', w, hw, hw'⟩ := h1 a ha2
          have hne : a ≠ d := fun z => by rw [z] at ha2; exact n1 ha2
          rw [upd_ne hne] at hw
          exact ⟨od', w, hw, hw'⟩
      · rw [h2 b (fun z => hb (by simp [z])), upd_ne (fun z => hb (by simp [z]))]
end
def lstIs (g : GH) (i : Nat) : Bool := match g[i]? with
  | some (.lst _) => true
  | _ => false
theorem lstIs_some {g : GH} {i : Nat} (h : lstIs g i = true) : ∃ ds, g[i]? = some (.lst ds) := by
  unfold lstIs at h
  split at h
  · rename_i ds e
    exact ⟨ds, e⟩
  · cases h
/-- the lists made since -/
def newL (g : GH) (n : Nat) : List Addr → Nat → List Addr
  | [], _ => []
  | a :: m, i => if n ≤ i ∧ lstIs g i = true then a :: newL g n m (i + 1) else newL g n m (i + 1)
theorem newL_mem {g : GH} {n : Nat} {a : Addr} : ∀ (m : List Addr) (i : Nat), a ∈ newL g n m i → ∃ (j : Nat) (ds : List D), m[j]? = some a ∧ n ≤ i + j ∧ g[i + j]? = some (.lst ds)
  | [], _, h => by cases h
  | b :: m, i, h => by
    unfold newL at h
    have rest : a ∈ newL g n m (i + 1) → ∃ (j : Nat) (ds : List D), (b :: m)[j]? = some a ∧ n ≤ i + j ∧ g[i + j]? = some (.lst ds) := fun h => by
      obtain ⟨j, ds, h1, h2, h3⟩ := newL_mem m (i + 1) h
      exact ⟨j + 1, ds, by simpa using h1, by omega, by rw [show i + (j + 1) = i + 1 + j by omega]; exact h3⟩
    split at h
    · rename_i hc
      rcases List.mem_cons.mp h with e | h
      · subst e
        obtain ⟨ds, e⟩ := lstIs_some hc.2
        exact ⟨0, ds, rfl, hc.1, e⟩
      · exact rest h
    · exact rest h
theorem newL_of {g : GH} {n : Nat} {a : Addr} {ds : List D} : ∀ (m : List Addr) (i j : Nat), m[j]? = some a → n ≤ i + j → g[i + j]? = some (.lst ds) → a ∈ newL g n m i
  | [], _, _, h, _, _ => by simp at h
  | b :: m, i, 0, h, h1, h2 => by
    simp at h
    subst h
    unfold newL
    rw [if_pos ⟨h1, by simp only [Nat.add_zero] at h2; unfold lstIs; rw [h2]⟩]
    simp
  | b :: m, i, j + 1, h, h1, h2 => by
    have := newL_of (g := g) (n := n) (a := a) (ds := ds) m (i + 1) j (by simpa using h) (by omega) (by rw [show i + 1 + j = i + (j + 1) by omega]; exact h2)
    unfold newL
    split
    · exact List.mem_cons_of_mem _ this
    · exact this
theorem newL_sub {g : GH} {n : Nat} : ∀ (m : List Addr) (i : Nat), (newL g n m i).Sublist m
  | [], _ => List.Sublist.slnil
  | b :: m, i => by
    unfold newL
    split
    · exact (newL_sub m (i + 1)).cons_cons b
    · exact (newL_sub m (i + 1)).cons b
section
variable {K : KW} {T : List (Addr × Str)} {m m' : List Addr} {H H' : Hp} {g g1 : GH}
theorem nth_inj {m : List Addr} (hn : m.Nodup) {i j : Nat} {a : Addr} (h1 : m[i]? = some a) (h2 : m[j]? = some a) : i = j := by
  obtain ⟨l1, e1⟩ := List.getElem?_eq_some_iff.mp h1
  obtain ⟨l2, e2⟩ := List.getElem?_eq_some_iff.mp h2
  exact (List.getElem_inj hn).mp (e1.trans e2.symm)
theorem fz_rep (s : S K T m' g1 H) (hH : ∀ a ∈ newL g1 m.length m' 0, ∃ od u, H a = some u ∧ H' a = some (.frz od u)) (hm : ∀ (i : Nat) a, i < m.length → m'[i]? = some a → m[i]? = some a)
    (ht : ∀ b xs, H b = some (.tup xs) → H' b = some (.tup xs)) (hf : ∀ b o u, H b = some (.frz o u) → H' b = some (.frz o u)) :
    ∀ (k : Nat) (d d' : D) (v : V), fzD g1 m.length k d = some d' → DRep K m' H d v → DRep K m H' d' v
  | 0, _, _, _, h, _ => by cases h
  | k + 1, d, d', v, h, r => by
    have ih := fz_rep s hH hm ht hf k
    have ihs : ∀ (ds ds' : List D) (vs : List V), ds.mapM (fzD g1 m.length k) = some ds' → DReps K m' H ds vs → DReps K m H' ds' vs := fun ds => by
      induction ds with
      | nil =>
        intro ds' vs e r
        have : ds' = [] := by simpa using e.symm
        subst this
        simpa [DReps] using r
      | cons d ds ihd =>
        intro ds' vs e r
        rw [List.mapM_cons] at e
        rw [DReps] at r
        obtain ⟨v, vs, rfl, r1, r2⟩ := r
        cases e1 : fzD g1 m.length k d with
        | none => rw [e1] at e; cases e
        | some d1 =>
          cases e2 : ds.mapM (fzD g1 m.length k) with
          | none => rw [e1, e2] at e; cases e
          | some ds1 =>
            rw [e1, e2] at e
            have : ds' = d1 :: ds1 := by simpa using e.symm
            subst this
            rw [DReps]
            exact ⟨v, vs, rfl, ih _ _ _ e1 r1, ihd _ _ e2 r2⟩
    unfold fzD at h
    cases d with
    | ref i =>
      simp only at h
      rw [DRep] at r
      obtain ⟨a, rfl, r1⟩ := r
      split at h
      · rename_i hi
        cases h
        rw [DRep]
        exact ⟨a, rfl, hm i a hi r1⟩
      · rename_i hi
        split at h
        · rename_i ds e1
          cases e2 : ds.mapM (fzD g1 m.length k) with
          | none => rw [e2] at h; cases h
          | some ds1 =>
            rw [e2] at h
            cases h
            obtain ⟨o, e3, r3⟩ := s.at r1
            rw [e1] at e3
            cases e3
            obtain ⟨xs, r4, r5⟩ := r3
            obtain ⟨od, u, h1, h2⟩ := hH a (newL_of m' 0 i r1 (by omega) (by rw [Nat.zero_add]; exact e1))
            rw [r4] at h1
            cases h1
            rw [DRep]
            exact ⟨a, xs, rfl, ⟨od, h2⟩, ihs _ _ _ e2 r5⟩
        · cases h
    | tup ds =>
      rw [DRep] at r
      obtain ⟨a, xs, rfl, r1, r2⟩ := r
      cases e2 : ds.mapM (fzD g1 m.length k) with
      | none => simp only [e2] at h; cases h
      | some ds1 =>
        simp only [e2] at h
        cases h
        rw [DRep]
        exact ⟨a, xs, rfl, sqT_keep ht hf r1, ihs _ _ _ e2 r2⟩
    | rol ds =>
      rw [DRep] at r
      obtain ⟨a, xs, rfl, r1, r2⟩ := r
      cases e2 : ds.mapM (fzD g1 m.length k) with
      | none => simp only [e2] at h; cases h
      | some ds1 =>
        simp only [e2] at h
        cases h
        rw [DRep]
        exact ⟨a, xs, rfl, roL_keep hf r1, ihs _ _ _ e2 r2⟩
    | scr ds =>
      simp only at h
      split at h
      · rename_i hc
        cases h
        exact drep_back hm ht hf (.scr ds) v (by simpa [clD] using hc) r
      · cases h
    | non => cases h; simpa [DRep] using r
    | bl b => cases h; simpa [DRep] using r
    | int b => cases h; simpa [DRep] using r
    | str b => cases h; simpa [DRep] using r
/-- back to the objects that stood ahead of a call -/
theorem s_back (s0 : S K T m g H) {H1 : Hp} (e : Ext m H m' H1) (s1 : S K T m' g1 H1) (hk : keepOk g.length g g1 = true) (hH : ∀ a ∈ newL g1 m.length m' 0, ∃ od u, H1 a = some u ∧ H' a = some (.frz od u)) (hO : ∀ b, b ∉ newL g1 m.length m' 0 → H' b = H1 b) :
    Ext m H m H' ∧ S K T m (g1.take g.length) H' ∧ (∀ (i : Nat) a, i < m.length → m'[i]? = some a → m[i]? = some a) ∧ (∀ b xs, H1 b = some (.tup xs) → H' b = some (.tup xs)) ∧ (∀ b o u, H1 b = some (.frz o u) → H' b = some (.frz o u)) := by
  obtain ⟨t, et, ht0⟩ := e.pre
  have hm : ∀ (i : Nat) a, i < m.length → m'[i]? = some a → m[i]? = some a := fun i a hi h => by
    rw [et, List.getElem?_append_left hi] at h
    exact h
  have lst : ∀ a, a ∈ newL g1 m.length m' 0 → ∃ xs, H1 a = some (.lst xs) := fun a ha => by
    obtain ⟨j, ds, h1, h2, h3⟩ := newL_mem m' 0 ha
    obtain ⟨o, h4, h5⟩ := s1.at h1
    rw [Nat.zero_add] at h3
    rw [h3] at h4
    cases h4
    obtain ⟨xs, h6, _⟩ := h5
    exact ⟨xs, h6⟩
  have other : ∀ b u, H1 b = some u → (∀ xs, u ≠ .lst xs) → H' b = some u := fun b u h n => by
    rw [hO b]
    · exact h
    · intro hb
      obtain ⟨xs, hx⟩ := lst b hb
      rw [hx] at h
      cases h
      exact n xs rfl
  have htup : ∀ b xs, H1 b = some (.tup xs) → H' b = some (.tup xs) := fun b xs h => other b _ h fun _ z => by cases z
  have hfrz : ∀ b o u, H1 b = some (.frz o u) → H' b = some (.frz o u) := fun b o u h => other b _ h fun _ z => by cases z
  have notin : ∀ b, b ∉ m' → b ∉ newL g1 m.length m' 0 := fun b hb z => hb ((newL_sub m' 0).subset z)
  refine ⟨⟨⟨[], by simp, fun _ h => by cases h⟩, fun b xs h => htup b xs (e.tups b xs h), fun b o u h => hfrz b o u (e.frzs b o u h), fun b o h n nt => ?_, fun b h => ?_⟩, ⟨s0.nod, ?_, fun i a o h1 h2 => ?_, ?_⟩, hm, htup, hfrz⟩
  · rw [hO b (notin b (e.mem h n nt))]
    exact e.keep b o h n nt
  · refine e.dom b fun o q => ?_
    by_cases hb : b ∈ newL g1 m.length m' 0
    · obtain ⟨od, u, h1, h2⟩ := hH b hb
      obtain ⟨ps, z⟩ := h _ h2
      cases z
    · exact h o (by rw [hO b hb]; exact q)
  · rw [List.length_take, s0.len]
    have := (keepOk_at hk).1
    omega
  · have hi : i < g.length := by rw [← s0.len]; exact (List.getElem?_eq_some_iff.mp h1).1
    rw [List.getElem?_take_of_lt hi] at h2
    have h1' : m'[i]? = some a := by rw [et, List.getElem?_append_left (by rw [s0.len]; exact hi)]; exact h1
    have r := s1.obj i a o h1' h2
    have c : clO m.length o = true := by
      rcases (keepOk_at hk).2 i o hi h2 with z | z
      · exact orep_cl (s0.obj i a o h1 z)
      · rw [s0.len]; exact z
    refine orep_back c hm htup hfrz (fun u hu => ?_) r
    rw [hO a]
    · exact hu
    · intro ha
      obtain ⟨j, ds, h3, h4, _⟩ := newL_mem m' 0 ha
      have := nth_inj s1.nod h1' h3
      rw [s0.len] at h4
      omega
  · refine tabs_keep s1.tab fun b o h n => ?_
    refine other b o h fun xs z => ?_
    subst z
    exact n True.intro
end
theorem gc_post {Z : Row} {F : List D → GH → Res D} {ds : List D} {g : GH} {m : List Addr} {H : Hp} {Q : VK} {E : XK} (s : S Z.K Z.T m g H)
    (h : Post Z.K Z.T (RD Z) (gc F ds g) m H Q fun e m' H' => ∀ cls d, ERep Z.ec Z.K m' H' e cls d → E cls d H') :
    Post Z.K Z.T (RD Z) (F ds g) m H (LkQ Q) fun e m' H' => ∀ cls d, ERep Z.ec Z.K m' H' e cls d → E cls d H' := by
  unfold gc at h
  cases e0 : F ds g with
  | bad => rw [e0] at h; exact h
  | ok d g1 =>
    rw [e0] at h
    simp only at h
    split at h
    · rename_i hk
      cases e1 : fzD g1 g.length 16 d with
      | none => rw [e1] at h; exact h.elim
      | some d' =>
        rw [e1] at h
        simp only at h
        intro m' H1 v e s1 r
        refine ⟨newL g1 m.length m' 0, lk_all _ _ ((newL_sub m' 0).nodup s1.nod) (fun a ha => ?_) fun H' hH hO => ?_⟩
        · obtain ⟨j, ds', h1, h2, h3⟩ := newL_mem m' 0 ha
          obtain ⟨o, h4, h5⟩ := s1.at h1
          rw [Nat.zero_add] at h3
          rw [h3] at h4
          cases h4
          obtain ⟨xs, h6, _⟩ := h5
          exact ⟨_, h6, True.intro⟩
        · obtain ⟨a1, a2, a3, a4, a5⟩ := s_back s e s1 hk hH hO
          rw [← s.len] at e1
          exact h m H' v a1 a2 (fz_rep s1 hH a3 a4 a5 16 d d' v e1 r)
    · exact h.elim
  | er x g1 =>
    rw [e0] at h
    simp only at h
    split at h
    · rename_i hk
      rw [Bool.and_eq_true] at hk
      intro m' H1 e s1 cls dd er
      -- nothing is frozen; the new objects are forgotten
      obtain ⟨t, et, ht0⟩ := e.pre
      have hm : ∀ (i : Nat) a, i < m.length → m'[i]? = some a → m[i]? = some a := fun i a hi h => by
        rw [et, List.getElem?_append_left hi] at h
        exact h
      have eb : Ext m H m H1 := ⟨⟨[], by simp, fun _ h => by cases h⟩, e.tups, e.frzs, e.keep, e.dom⟩
      have sb : S Z.K Z.T m (g1.take g.length) H1 := by
        refine ⟨s.nod, ?_, fun i a o h1 h2 => ?_, s1.tab⟩
        · rw [List.length_take, s.len]
          have := (keepOk_at hk.1).1
          omega
        · have hi : i < g.length := by rw [← s.len]; exact (List.getElem?_eq_some_iff.mp h1).1
          rw [List.getElem?_take_of_lt hi] at h2
          have h1' : m'[i]? = some a := by rw [et, List.getElem?_append_left (by rw [s.len]; exact hi)]; exact h1
          have r := s1.obj i a o h1' h2
          have c : clO m.length o = true := by
            rcases (keepOk_at hk.1).2 i o hi h2 with z | z
            · exact orep_cl (s.obj i a o h1 z)
            · rw [s.len]; exact z
          exact orep_back c hm (fun _ _ h => h) (fun _ _ _ h => h) (fun _ h => h) r
      refine h m H1 eb sb cls dd ?_
      cases x with
      | own c => exact er
      | lim c x =>
        obtain ⟨h1, ad, v, h2, h3, h4⟩ := er
        exact ⟨h1, ad, v, h2, h3, drep_back hm (fun _ _ h => h) (fun _ _ _ h => h) _ _ (by rw [s.len]; exact hk.2) h4⟩
    · exact h.elim
section
variable {X : Cx} {Z : Row} {W : WX} {pos : Pos} {es : List Expr} {as : AV}
theorem pe3_callG {k n : Nat} {f : Addr} {fd : FuncData} {ps : List Str} {F : List D → GH → Res D} {x : Str} {p : Pos} {e : Expr} (G : FnOk X.prog X.w X.K X.mg X.base (L2.CX X.prog X.w) k f fd ps (spOf Z n F)) (hr : Room k X.A) (hg : Gl X x)
    (hm : X.mg x = some (.ref f)) (hk : PySem.W.keepIn X.K (.ref f) = true) (hb : Binds X.K fd ps []) (tk : Takes X W) (ha : PA X (e :: es) (tA3 Z as W)) (hn : (e :: es).length = n)
    (hlen : ∀ ρ g ds g', as ρ g = .ok ds g' → ds.length = n) (hdb : (x == ("__debug__" : Str)) = false := by decide) (he : starEach (e :: es) X.env = (false, eval e X.env) :: starEach es X.env := by rfl)
    (hpl : (backTo pos (starEach es X.env)).any (·.1) = false := by rfl) : PE X (.Call (.Name x p) (e :: es) [] pos) (tE Z (eCall (gc F) as) W) :=
  (PE.lk (pe_callS (E := WE W) G hr hg hm hk hb (fun σ => passAt tk σ) ha hdb he hpl)).imp fun σ H Q ⟨m, g, ρ, s, r, h⟩ => by
    refine ⟨m, g, ρ, s, r, ?_⟩
    have h' : Post Z.K Z.T (RD Z) ((as ρ g).bind (gc F)) m H Q (WofX Z W σ) := h
    cases e1 : as ρ g with
    | bad => rw [e1] at h'; exact h'
    | er x g1 => rw [e1] at h'; exact h'
    | ok ds g1 =>
      rw [e1] at h'
      intro m1 H1 vs x1 s1 r1
      exact ⟨by rw [← DReps.length r1]; exact hlen ρ g ds g1 e1, m1, g1, ds, s1, r1, gc_post s1 (Post.ext (r := gc F ds g1) h' x1)⟩
end
end L3

/-! L3q: sets of tuples of numbers (ints and bools). -/
namespace L3
open PySem PySem.Spec PyProof.Rows L2

abbrev nkT (k : List Int) : NestedKey := .tup (k.map .num)
/-- the tuple at a is the row k of numbers -/
def IsN (h : Heap) (k : List Int) (a : Addr) : Prop := NestedIs h (nkT k) (.ref a)
def hN (w : World) (k : List Int) : Int := NestedKey.hash w (nkT k)
theorem numOr {h : Heap} : ∀ {k : List Int} {vs : List Value}, NestedAll h (k.map .num) vs → ∀ v ∈ vs, (∃ i t, v = Value.int i t) ∨ ∃ b, v = Value.bool b
  | [], _, q, v, hv => by cases q; cases hv
  | i :: k, _, q, v, hv => by
    cases q with
    | cons q1 q2 =>
      rcases List.mem_cons.mp hv with e | hv
      · subst e
        cases q1 with
        | bool e => exact .inr ⟨_, rfl⟩
        | int _ t => exact .inl ⟨_, t, rfl⟩
      · exact numOr q2 v hv
theorem IsN.open {h : Heap} {k : List Int} {a : Addr} (q : IsN h k a) : ∃ o items n, h.get? a = some o ∧ o.cls = .type "tuple" ∧ o.data = .seq items n ∧ NestedAll h (k.map .num) items.toList := by
  cases q with
  | tup h1 h2 h3 h4 => exact ⟨_, _, _, h1, h2, h3, h4⟩
theorem IsN.stay {h h' : Heap} {k : List Int} {a : Addr} (q : IsN h k a) (st : ∀ b o vs n, h.get? b = some o → o.data = .seq vs n → h'.get? b = some o) : IsN h' k a := NestedIs.at st _ _ q
theorem IsN.keep {h h' : Heap} {k : List Int} {a : Addr} (q : IsN h k a) (st : ∀ b o, h.get? b = some o → h'.get? b = some o) : IsN h' k a := q.stay fun b o _ _ e _ => st b o e
theorem IsN.one {h : Heap} {k k' : List Int} {a : Addr} (q : IsN h k a) (q' : IsN h k' a) : k = k' := by
  have e := NestedIs.inj _ _ _ q q'
  injection e with e
  have inj : ∀ k k' : List Int, k.map NestedKey.num = k'.map NestedKey.num → k = k' := fun k => by
    induction k with
    | nil => intro k' e; cases k' with
      | nil => rfl
      | cons _ _ => cases e
    | cons i k ih => intro k' e; cases k' with
      | nil => cases e
      | cons j k' =>
        simp only [List.map_cons, List.cons.injEq] at e
        injection e.1 with e1
        rw [e1, ih k' e.2]
  exact inj k k' e
/-- a set's own table is no tuple -/
theorem IsN.aside {h h' : Heap} {k : List Int} {a b : Addr} {o : Obj} {es : Array (Int × Value)} {ep : Nat} {t : SetTable} (q : IsN h k b) (ho : h.get? a = some o) (hd : o.data = .set es ep t) (sb : Heap.SameBut a h h') : IsN h' k b :=
  q.stay fun c u vs n hc hs => (sb.2 c fun z => by rw [z, ho] at hc; cases hc; rw [hd] at hs; cases hs).trans hc
theorem depN (k : List Int) : (nkT k).depth ≤ 8 := by
  have : ∀ k : List Int, NestedKey.depthAll (k.map .num) = 0 := fun k => by
    induction k with
    | nil => rfl
    | cons i k ih => simp [NestedKey.depthAll, NestedKey.depth, ih]
  simp [NestedKey.depth, this]
theorem decN (k k' : List Int) : decide (nkT k = nkT k') = decide (k = k') := by
  have inj : nkT k = nkT k' → k = k' := fun e => by
    injection e with e
    have h := congrArg (List.map fun x => match x with | NestedKey.num i => i | _ => 0) e
    simpa [Function.comp_def] using h
  by_cases h : k = k'
  · subst h; simp
  · have : ¬ nkT k = nkT k' := fun z => h (inj z)
    simp [h, this]
section
variable {P : Program} {w : World} {A : Around} {E : Value → Shared → Prop} {s : Shared} {k : List Int} {a b : Addr}
theorem IsN.ty (q : IsN s.heap k a) : s.TypeIs (.ref a) "tuple" := by
  obtain ⟨o, _, _, h1, h2, _⟩ := q.open
  exact ⟨o, h1, h2⟩
theorem eqN {k' : List Int} {Q : Bool → Shared → Prop} (hu : A.units + 8 < cLine) (x : IsN s.heap k a) (y : IsN s.heap k' b) (q : Q (decide (k = k')) s) : wpAny (model P w) A (eqBool (.ref a) (.ref b)) Q E s :=
  (nestedKind P w).eqBool hu ⟨x, depN k⟩ ⟨y, depN k'⟩ (by rw [decN]; exact q)
theorem hashN {Q : Int → Shared → Prop} (hu : A.units + 8 < cLine) (x : IsN s.heap k a) (q : Q (hN w k) { s with toks := s.toks + NestedKey.draws (nkT k) }) : wpAny (model P w) A (pyHash (.ref a)) Q E s :=
  (nestedKind P w).pyHash hu ⟨x, depN k⟩ q
theorem quietN {Q : Bool → Shared → Prop} (x : IsN s.heap k a) (q : Q true s) : wpAny (model P w) A (eqIsQuiet 8 (.ref a)) Q E s := (nestedKind P w).quiet ⟨x, depN k⟩ q
/-- it is of no class statement -/
theorem classN {Q : Bool → Shared → Prop} (x : IsN s.heap k b) (q : Q false s) : wpAny (model P w) A (ofAClassStatement 8 (.ref b)) Q E s := by
  have ty := x.ty
  obtain ⟨o, its, n, g1, _, g3, g4⟩ := x.open
  have nums := numOr g4
  unfold ofAClassStatement
  refine wpAny_bind (wpAny_typeOf ty ?_)
  dsimp only
  have tt : (("tuple" : String) == "tuple") = true := by decide
  simp only [tt, if_true, Bool.not_true, Bool.false_eq_true, if_false]
  try refine wpAny_bind (wpAny_pure ?_)
  try simp only [Bool.not_true, Bool.false_eq_true, if_false]
  show wpAny _ _ (seqItems? (.ref b) >>= _) _ _ s
  refine wpAny_bind (wpAny_seqItems g1 g3 ?_)
  dsimp only
  refine wpAny_bind ?_
  show wpAny _ _ (forIn its _ _) _ _ s
  rw [← Array.forIn_toList]
  refine wpAny_forIn_list _ (fun r acc z => acc.1 = none ∧ z = s ∧ ∀ v ∈ r, (∃ i t, v = Value.int i t) ∨ ∃ b, v = Value.bool b) _ ?_ ?_ _ _ ⟨rfl, rfl, nums⟩
  · rintro v r acc z ⟨e1, rfl, all⟩
    have none_of : ofAClassStatement 7 v = pure false := by
      rcases all v List.mem_cons_self with ⟨i, t, rfl⟩ | ⟨c, rfl⟩ <;> rfl
    rw [none_of]
    refine wpAny_bind (wpAny_pure ?_)
    simp only [Bool.false_eq_true, if_false]
    exact wpAny_pure ⟨rfl, rfl, fun u hu => all u (List.mem_cons_of_mem _ hu)⟩
  · rintro ⟨c1, c2⟩ z ⟨e1, rfl, _⟩
    simp only at e1
    subst e1
    exact wpAny_pure q
/-- its hash goes by its value -/
theorem byValN {Q : Bool → Shared → Prop} (x : IsN s.heap k b) (q : Q true s) : wpAny (model P w) A (hashByValue 8 (.ref b)) Q E s := by
  have ty := x.ty
  obtain ⟨o, its, n, g1, _, g3, g4⟩ := x.open
  have nums := numOr g4
  unfold hashByValue
  refine wpAny_bind (wpAny_specialOf ty F.slot_tuple_hash.lookup ?_)
  show wpAny _ _ (seqItems? (.ref b) >>= _) _ _ s
  refine wpAny_bind (wpAny_seqItems g1 g3 ?_)
  refine wpAny_bind ?_
  show wpAny _ _ (forIn its _ _) _ _ s
  rw [← Array.forIn_toList]
  refine wpAny_forIn_list _ (fun r acc z => acc.1 = none ∧ z = s ∧ ∀ v ∈ r, (∃ i t, v = Value.int i t) ∨ ∃ b, v = Value.bool b) _ ?_ ?_ _ _ ⟨rfl, rfl, nums⟩
  · rintro v r acc z ⟨e1, rfl, all⟩
    have yes : hashByValue 7 v = pure true := by
      rcases all v List.mem_cons_self with ⟨i, t, rfl⟩ | ⟨c, rfl⟩ <;> rfl
    rw [yes]
    refine wpAny_bind (wpAny_pure ?_)
    simp only [Bool.not_true, Bool.false_eq_true, if_false]
    exact wpAny_pure ⟨rfl, rfl, fun u hu => all u (List.mem_cons_of_mem _ hu)⟩
  · rintro ⟨c1, c2⟩ z ⟨e1, rfl, _⟩
    simp only at e1
    subst e1
    exact wpAny_pure q
/-- searching among such tuples shows nothing -/
theorem unseenN {Q : Bool → Shared → Prop} (x : IsN s.heap k b) {ys : List Value} (hy : ∀ y ∈ ys, ∃ k' c, y = Value.ref c ∧ IsN s.heap k' c) (q : Q false s) : wpAny (model P w) A (searchCouldBeSeen (.ref b) ys) Q E s := by
  unfold searchCouldBeSeen
  refine wpAny_bind ?_
  refine wpAny_forIn_list _ (fun r acc z => acc.1 = none ∧ z = s ∧ ∀ y ∈ r, ∃ k' c, y = Value.ref c ∧ IsN s.heap k' c) _ ?_ ?_ _ _ ⟨rfl, rfl, hy⟩
  · rintro v r acc z ⟨e1, rfl, all⟩
    obtain ⟨k', c, rfl, xc⟩ := all v List.mem_cons_self
    have more := fun u hu => all u (List.mem_cons_of_mem _ hu)
    dsimp only
    by_cases same : (b == c || (carriedByValue (.ref b) && carriedByValue (.ref c))) = true
    · exact wp_if_pos same (wpAny_pure ⟨rfl, rfl, more⟩)
    · refine wp_if_neg same (wpAny_bind (quietN x ?_))
      simp only [Bool.not_true, Bool.false_eq_true, if_false]
      refine wpAny_bind (quietN xc ?_)
      simp only [Bool.not_true, Bool.false_eq_true, if_false]
      refine wpAny_bind (classN x ?_)
      simp only [Bool.false_eq_true, if_false]
      refine wpAny_bind (classN xc ?_)
      simp only [Bool.false_eq_true, if_false]
      exact wpAny_pure ⟨rfl, rfl, more⟩
  · rintro ⟨c1, c2⟩ z ⟨e1, rfl, _⟩
    simp only at e1
    subst e1
    exact wpAny_pure q
end
/-- one entry of the table -/
abbrev rowN (w : World) (p : Addr × List Int) : Int × Value := (hN w p.2, Value.ref p.1)
/-- the set at a has the rows L -/
structure SetN (P : Program) (w : World) (h : Heap) (a : Addr) (L : List (Addr × List Int)) (es : Array (Int × Value)) (ep : Nat) (t : SetTable) : Prop where
  at_ : ∃ o, h.get? a = some o ∧ o.ExactSet ∧ o.data = .set es ep t
  ents : es.toList = L.map (rowN w)
  tab : TabOk t (L.map fun p => hN w p.2)
  nodup : (L.map (·.2)).Nodup
  each : ∀ p ∈ L, IsN h p.2 p.1
  plain : t.plain = true
  led : w.params.followText "set-order" = true ∨ t.led = true
  room : L.length * 5 < t.mask * 3
  few : L.length < 64
section
variable {P : Program} {w : World} {A : Around} {E : Value → Shared → Prop} {s : Shared} {a : Addr} {L : List (Addr × List Int)} {es : Array (Int × Value)} {ep : Nat} {t : SetTable}
theorem entsLen (h : es.toList = L.map (rowN w)) : es.size = L.length := by
  have := congrArg List.length h
  simpa using this
theorem SetN.fits (R : SetN P w s.heap a L es ep t) : t.fits es.size = true := by
  have h1 := R.tab.sz
  rw [List.length_map] at h1
  have h2 := entsLen R.ents
  have h3 := R.room
  unfold SetTable.fits SetTable.fill
  rw [R.tab.dm, Bool.and_eq_true, beq_iff_eq, decide_eq_true_eq]
  refine ⟨by omega, ?_⟩
  show t.place.size + 0 ≤ t.mask
  omega
theorem entAt (h : es.toList = L.map (rowN w)) (i : Nat) : es[i]? = (L[i]?).map (rowN w) := by
  rw [← Array.getElem?_toList, h, List.getElem?_map]
theorem SetN.open_ (R : SetN P w s.heap a L es ep t) : ¬ t.gaveWay = true := by
  unfold SetTable.gaveWay
  rw [mask_odd R.tab.mok]
  decide
/-- no dummies are met on the way -/
theorem wayClean (m : Nat) : ∀ (n : Nat) (p : SetTable.Probe), p.dummy = none → (nth m p n).dummy = none
  | 0, _, h => h
  | n + 1, p, h => wayClean m n (adv m p) (by unfold adv; split <;> exact h)
/-- the search, from the c-th step on; it ends at step K -/
theorem seekN (R : SetN P w s.heap a L es ep t) {x : Addr} {k : List Int} (hx : IsN s.heap k x) (hu : A.units + 8 < cLine) {K : Nat} (lt : K < 10 * SetTable.turns t.mask) {v : SetTable.Probe} (hv : v = runAt t.mask (SetTable.bits (hN w k) % (t.mask + 1)) (SetTable.bits (hN w k)))
    (out : (nth t.mask v K).j ∉ t.place.toList) (full : ∀ c, c < K → (nth t.mask v c).j ∈ t.place.toList) {Q : SetFound → Shared → Prop}
    (yes : k ∈ L.map (·.2) → Q (.there none) s) (no : k ∉ L.map (·.2) → Q (.free (nth t.mask v K).j false) s) :
    ∀ (f c : Nat) (stand : Option SetTable.Probe), stand.getD (t.probeStart (hN w k)) = nth t.mask v c → c ≤ K → K - c < f →
      (∀ (i : Nat) p, L[i]? = some p → p.2 = k → ∃ c', c ≤ c' ∧ c' < K ∧ t.place.toList[i]? = some (nth t.mask v c').j) → wpAny (model P w) A (setSearchFrom a (.ref x) (hN w k) true f stand) Q E s
  | 0, c, _, _, _, z, _ => absurd z (Nat.not_lt_zero _)
  | f + 1, c, stand, st, cK, fl, ahead => by
    obtain ⟨o, g1, g2, g3⟩ := R.at_
    rw [setSearchFrom_succ]
    refine wpAny_bind (wpAny_setState_of g1 g3 R.fits ?_)
    dsimp only
    refine wp_if_neg R.open_ ?_
    try refine wpAny_bind (wpAny_pure ?_)
    have on : ∀ q, nth t.mask (nth t.mask v c) q = nth t.mask v (c + q) := fun q => (nth_add t.mask c v q).symm
    have clean : (nth t.mask v c).dummy = none := wayClean t.mask c v (by rw [hv]; rfl)
    have eK : c + (K - c) = K := by omega
    have found := go_spec t R.tab.ris R.tab.dm (fun i => (es[i]?.map (·.1)).getD 0) (hN w k) (10 * SetTable.turns t.mask) (K - c) (nth t.mask v c) clean (by omega)
      (fun q hq => by rw [on]; exact full (c + q) (by omega)) (by rw [on, eK]; exact out)
    have hashes : ∀ (i : Nat) p, L[i]? = some p → (es[i]?.map (·.1)).getD 0 = hN w p.2 := fun i p e => by rw [entAt R.ents, e]; rfl
    rcases found with ⟨q, i, lq, at1, eh, before, step⟩ | ⟨before, step⟩
    · rw [on] at at1
      have step' : t.probe (fun i => (es[i]?.map (·.1)).getD 0) (hN w k) (stand.getD (t.probeStart (hN w k))) = some (.candidate (nth t.mask v (c + q)).j i (nth t.mask v (c + (q + 1)))) := by
        rw [st, ← on q, ← on (q + 1)]
        exact step
      rw [step']
      dsimp only
      obtain ⟨p, ep1⟩ : ∃ p, L[i]? = some p := by
        have l1 := (List.getElem?_eq_some_iff.mp at1).1
        have l2 := R.tab.sz
        rw [List.length_map] at l2
        rw [Array.length_toList, l2] at l1
        exact ⟨L[i], List.getElem?_eq_getElem l1⟩
      have pin := List.mem_of_getElem? ep1
      have px := R.each p pin
      have slot1 := slot_live R.tab.ris at1
      have ent : es[i]? = some (hN w p.2, Value.ref p.1) := by rw [entAt R.ents, ep1]; rfl
      have go : wpAny (model P w) A (searchRest a (.ref x) (hN w k) true f es t (nth t.mask v (c + q)).j i (nth t.mask v (c + (q + 1)))) Q E s := by
        unfold searchRest
        rw [ent]
        dsimp only
        refine wpAny_bind (wpAny_holding (eqN hu px hx ?_))
        refine wpAny_bind (wpAny_setState_of g1 g3 R.fits ?_)
        dsimp only
        by_cases ek : p.2 = k
        · exact wp_if_pos (by simp [ek]) (wpAny_pure (yes (List.mem_map.mpr ⟨p, pin, ek⟩)))
        · refine wp_if_neg (by simp [ek]) ?_
          try refine wpAny_bind (wpAny_pure ?_)
          rw [sameMem]
          dsimp only
          simp only [if_true, slot1, ent]
          refine wpAny_bind (wpAny_isSame_ref_self (wpAny_bind (wpAny_pure ?_)))
          simp only [if_true]
          refine wp_if_neg (by simp [ek]) ?_
          refine seekN R hx hu lt hv out full yes no f (c + (q + 1)) _ rfl (by omega) (by omega) fun i0 p0 e0 k0 => ?_
          obtain ⟨c', b1, b2, b3⟩ := ahead i0 p0 e0 k0
          refine ⟨c', ?_, b2, b3⟩
          rcases Nat.lt_trichotomy c' (c + q) with z | z | z
          · have e1 : c + (c' - c) = c' := by omega
            exact absurd ((hashes i0 p0 e0).trans (congrArg (hN w) k0)) (before (c' - c) i0 (by omega) (by rw [on, e1]; exact b3))
          · rw [z] at b3
            have s2 := slot_live R.tab.ris b3
            rw [slot1] at s2
            injection s2 with s2
            rw [← s2, ep1] at e0
            exact absurd ((congrArg Prod.snd (Option.some.inj e0)).trans k0) ek
          · omega
      by_cases hl : t.led = true
      · refine wp_if_neg (by simp [hl]) ?_
        try refine wpAny_bind (wpAny_pure ?_)
        exact go
      · refine wp_if_pos (by simp [hl]) ?_
        refine wpAny_bind (unseenN hx (fun y hy => ?_) ?_)
        · obtain ⟨e, he, rfl⟩ := List.mem_map.mp hy
          have e1 : e ∈ es.toList := by
            have : e ∈ es ∧ e.1 = hN w k := by simpa using he
            simpa using this.1
          rw [R.ents] at e1
          obtain ⟨p2, m2, rfl⟩ := List.mem_map.mp e1
          exact ⟨p2.2, p2.1, rfl, R.each p2 m2⟩
        · refine wp_if_neg (by decide) ?_
          try refine wpAny_bind (wpAny_pure ?_)
          exact go
    · have step' : t.probe (fun i => (es[i]?.map (·.1)).getD 0) (hN w k) (stand.getD (t.probeStart (hN w k))) = some (.empty (nth t.mask v K).j none) := by
        rw [st, ← eK, ← on]
        exact step
      rw [step']
      dsimp only
      refine wpAny_pure (no fun z => ?_)
      obtain ⟨p0, m0, k0⟩ := List.mem_map.mp z
      obtain ⟨i0, e0⟩ := List.getElem?_of_mem m0
      obtain ⟨c', b1, b2, b3⟩ := ahead i0 p0 e0 k0
      have e1 : c + (c' - c) = c' := by omega
      exact before (c' - c) i0 (by omega) (by rw [on, e1]; exact b3) ((hashes i0 p0 e0).trans (congrArg (hN w) k0))
/-- the search as add asks for it -/
theorem seek1N (R : SetN P w s.heap a L es ep t) {x : Addr} {k : List Int} (hx : IsN s.heap k x) (hu : A.units + 8 < cLine) {Q : SetFound → Shared → Prop} (yes : k ∈ L.map (·.2) → Q (.there none) s)
    (no : ∀ K, k ∉ L.map (·.2) → way t.mask (hN w k) K ∉ t.place.toList → (∀ c, c < K → way t.mask (hN w k) c ∈ t.place.toList) → Q (.free (way t.mask (hN w k) K) false) s) :
    wpAny (model P w) A (setSearch a (.ref x) (hN w k) true) Q E s := by
  have rm := R.room
  obtain ⟨K, lt, out, full⟩ := R.tab.first (by rw [List.length_map]; omega) (hN w k)
  have big : K < 100000 := by
    have : 10 * SetTable.turns t.mask ≤ 1420 := by
      unfold SetTable.turns
      rcases R.tab.mok with e | e | e <;> omega
    omega
  unfold setSearch
  refine seekN R hx hu lt rfl out full yes (fun z => no K z out full) 100000 0 none rfl (Nat.zero_le _) (by omega) fun i p ei ek => ?_
  have li : i < t.place.toList.length := by
    have l1 := (List.getElem?_eq_some_iff.mp ei).1
    have l2 := R.tab.sz
    rw [List.length_map] at l2
    rw [Array.length_toList, l2]
    exact l1
  obtain ⟨c, lc, ec⟩ := R.tab.before out (by rw [List.getElem?_map, ei, ← ek]; rfl) (List.getElem?_eq_getElem li)
  exact ⟨c, Nat.zero_le _, lc, by rw [List.getElem?_eq_getElem li]; exact congrArg some ec.symm⟩
/-- the rows in another order -/
theorem reorder (order : Array Nat) (h : es.toList = L.map (rowN w)) (pm : order.toList.Perm (List.range L.length)) :
    ∃ L2 : List (Addr × List Int), (order.filterMap (es[·]?)).toList = L2.map (rowN w) ∧ L2.Perm L ∧ (L2.map fun p => hN w p.2) = order.toList.map fun i => (es.map (·.1)).getD i 0 := by
  refine ⟨order.toList.filterMap (fun i => L[i]?), ?_, ?_, ?_⟩
  · rw [Array.toList_filterMap, List.map_filterMap]
    congr 1
    funext i
    exact entAt h i
  · have all : ∀ n, n ≤ L.length → (List.range n).filterMap (fun i => L[i]?) = L.take n := fun n => by
      induction n with
      | zero => intro _; rfl
      | succ n ih =>
        intro hn
        rw [List.range_succ, List.filterMap_append, ih (by omega), List.take_succ, List.getElem?_eq_getElem hn]
        simp [List.getElem?_eq_getElem hn]
    have p2 := pm.filterMap fun i => L[i]?
    rw [all L.length (Nat.le_refl _), List.take_length] at p2
    exact p2
  · have lt : ∀ i ∈ order.toList, i < L.length := fun i hi => List.mem_range.mp (pm.mem_iff.mp hi)
    generalize order.toList = l at lt
    induction l with
    | nil => rfl
    | cons i l ih =>
      have li := lt i (by simp)
      have e1 : (es.map (·.1)).getD i 0 = hN w (L[i]).2 := by
        have e2 : (es.map (·.1))[i]? = some (hN w (L[i]).2) := by rw [Array.getElem?_map, entAt h, List.getElem?_eq_getElem li]; rfl
        simp [Array.getD_eq_getD_getElem?, e2]
      simp only [List.filterMap_cons, List.getElem?_eq_getElem li, List.map_cons, e1]
      rw [ih fun j hj => lt j (by simp [hj])]
/-- a larger table -/
theorem growN {o : Obj} (g1 : s.heap.get? a = some o) (g2 : o.ExactSet) (g3 : o.data = .set es ep t) (g4 : es.toList = L.map (rowN w)) (g5 : t.place.size = es.size) (g6 : t.dummies = #[]) (g7 : es.size ≤ t.mask)
    (nd : (L.map (·.2)).Nodup) (each : ∀ p ∈ L, IsN s.heap p.2 p.1) (pl : t.plain = true) (ld : w.params.followText "set-order" = true ∨ t.led = true) (few : L.length < 64) {wanted M : Nat}
    (hw : SetTable.sizeAbove wanted - 1 = M) (hM : MaskOk M) (hw2 : SetTable.sizeAbove wanted ≤ 128) (hn : L.length * 5 < M * 3) {Q : Unit → Shared → Prop}
    (q : ∀ h' L' es' ep' t', Heap.SameBut a s.heap h' → SetN P w h' a L' es' ep' t' → L'.Perm L → Q () { s with heap := h' }) : wpAny (model P w) A (setRelay a wanted) Q E s := by
  have sz := entsLen g4
  have fits : t.fits es.size = true := by
    unfold SetTable.fits SetTable.fill
    rw [g6, Bool.and_eq_true, beq_iff_eq, decide_eq_true_eq]
    refine ⟨g5, ?_⟩
    show t.place.size + 0 ≤ t.mask
    omega
  obtain ⟨t', order, e, pm, T, em, el, epl, ed⟩ := relaid_ok t (hs := es.map (·.1)) (wanted := wanted) hw hM (by rw [Array.size_map, sz]; omega)
  rw [Array.size_map, sz] at pm
  obtain ⟨L2, r1, r2, r3⟩ := reorder order g4 pm
  rw [← r3] at T
  have sz2 : (order.filterMap (es[·]?)).size = es.size := by
    rw [entsLen r1, r2.length_eq, sz]
  rw [setRelay_eq]
  refine wpAny_bind (wpAny_setState_of g1 g3 fits ?_)
  dsimp only
  refine wp_if_neg (by rw [sizeLine_eq]; omega) ?_
  try refine wpAny_bind (wpAny_pure ?_)
  rw [e]
  dsimp only
  refine wpAny_bind ?_
  refine wp_if_neg (by rw [sz2]; simp) ?_
  try refine wpAny_bind (wpAny_pure ?_)
  refine wpAny_pure ?_
  dsimp only
  refine wpAny_storeSet_of g1 g3 ?_ (by rw [sz2, sz, sizeLine_eq]; omega)
  have sb : Heap.SameBut a s.heap (s.heap.update a (Obj.putSet (order.filterMap (es[·]?)) t')) := Heap.SameBut.update ..
  refine q _ L2 _ _ t' sb ⟨⟨_, store_at g1 g3, ⟨g2.1, g2.2.1, g2.2.2⟩, rfl⟩, r1, T, (r2.map (·.2)).nodup_iff.mpr nd, fun p hp => (each p (r2.mem_iff.mp hp)).aside g1 g3 sb, by rw [epl]; exact pl, by rw [el]; exact ld, ?_, by rw [r2.length_eq]; exact few⟩ r2
  rw [r2.length_eq, em]
  exact hn
/-- one more -/
theorem addN (R : SetN P w s.heap a L es ep t) {x : Addr} {k : List Int} (hx : IsN s.heap k x) (hu : A.units + 8 < cLine) (hfew : L.length + 1 < 64) {Q : Bool → Shared → Prop}
    (q : ∀ b h' L' es' ep' t', Heap.SameBut a s.heap h' → SetN P w h' a L' es' ep' t' → (k ∈ L.map (·.2) → L' = L) → (k ∉ L.map (·.2) → L'.Perm ((x, k) :: L)) → Q b { s with heap := h' }) :
    wpAny (model P w) A (setAddHashed a (.ref x) (hN w k)) Q E s := by
  obtain ⟨o, g1, g2, g3⟩ := R.at_
  have sz := entsLen R.ents
  have rm := R.room
  unfold setAddHashed
  refine wpAny_holding ?_
  rw [show (100000 : Nat) = 99999 + 1 from rfl, setAddHashedIn_succ]
  refine wpAny_bind (wpAny_setState_of g1 g3 R.fits ?_)
  dsimp only
  refine wp_if_neg (by simp [byScan, Value.scannable]) ?_
  try refine wpAny_bind (wpAny_pure ?_)
  refine wpAny_bind (seek1N R hx hu (fun z => ?_) fun K z out full => ?_)
  · dsimp only
    exact wpAny_pure (q false s.heap L es ep t (Heap.SameBut.refl a s.heap) R (fun _ => rfl) fun y => absurd z y)
  · dsimp only
    refine wpAny_bind (wpAny_setState_of g1 g3 R.fits ?_)
    dsimp only
    obtain ⟨q1, q2, q3, q4, q5, q6, q7, q8, q9⟩ := R.tab.put out full
    have pl1 : (t.put (way t.mask (hN w k) K)).1.plain = true := by rw [q6]; exact R.plain
    generalize hpt : t.put (way t.mask (hN w k) K) = pt at q1 q3 q4 q5 q6 q7 q8 q9 pl1 ⊢
    obtain ⟨t1, p⟩ := pt
    dsimp only at q1 q3 q4 q5 q6 q7 q8 q9 pl1 ⊢
    subst q1
    first
      | (refine wpAny_bind ?_; refine wp_if_pos pl1 ?_; refine byValN hx ?_)
      | refine wp_if_pos pl1 (wpAny_bind (byValN hx ?_))
    simp only [if_true]
    generalize SetTable.below t.place (way t.mask (hN w k) K) = p at q2 q3 ⊢
    have ents1 : (SetTable.insertAt es p (hN w k, Value.ref x)).toList = (L.take p ++ (x, k) :: L.drop p).map (rowN w) := by
      rw [SetTable.toList_insertAt, R.ents]
      simp [rowN]
    have pm := put_perm L p (x, k)
    have hsh : (L.take p ++ (x, k) :: L.drop p).map (fun p => hN w p.2) = (L.map fun p => hN w p.2).take p ++ hN w k :: (L.map fun p => hN w p.2).drop p := by simp
    rw [← hsh] at q3
    have sz1 := entsLen ents1
    have ln1 : (L.take p ++ (x, k) :: L.drop p).length = L.length + 1 := pm.length_eq
    have nd1 : ((L.take p ++ (x, k) :: L.drop p).map (·.2)).Nodup := (pm.map (·.2)).nodup_iff.mpr (by rw [List.map_cons]; exact List.nodup_cons.mpr ⟨z, R.nodup⟩)
    generalize SetTable.insertAt es p (hN w k, Value.ref x) = es1 at ents1 sz1 ⊢
    generalize L.take p ++ (x, k) :: L.drop p = L1 at pm ln1 q3 nd1 ents1 sz1
    refine wpAny_bind (wpAny_storeSet_of g1 g3 ?_ (by rw [sz1, ln1, sizeLine_eq]; omega))
    have sb : Heap.SameBut a s.heap (s.heap.update a (Obj.putSet es1 t1)) := Heap.SameBut.update ..
    have g4 := store_at (es' := es1) (t' := t1) g1 g3
    generalize s.heap.update a (Obj.putSet es1 t1) = h1 at sb g4 ⊢
    have each1 : ∀ p ∈ L1, IsN h1 p.2 p.1 := fun p hp => by
      rcases List.mem_cons.mp (pm.mem_iff.mp hp) with e | hp
      · rw [e]; exact hx.aside g1 g3 sb
      · exact (R.each p hp).aside g1 g3 sb
    have ld1 : w.params.followText "set-order" = true ∨ t1.led = true := by rw [q5]; exact R.led
    by_cases hf : t1.tooFull = true
    · first
        | (refine wpAny_bind ?_; refine wp_if_pos (by simp [hf]) ?_)
        | (refine wp_if_pos (by simp [hf]) ?_; refine wpAny_bind ?_)
      have over : (L.length + 1) * 5 ≥ t1.mask * 3 := by
        have h := hf
        unfold SetTable.tooFull at h
        rw [decide_eq_true_eq, q9, List.length_map] at h
        exact h
      rw [sz]
      have szp : t1.place.size = es1.size := by
        have h := q3.sz
        rw [List.length_map] at h
        rw [h, sz1]
      have two : (t.mask = 7 ∧ L.length = 4) ∨ (t.mask = 31 ∧ L.length = 18) := by
        rcases R.tab.mok with e | e | e
        · rw [q4, e] at over; rw [e] at rm; exact .inl ⟨e, by omega⟩
        · rw [q4, e] at over; rw [e] at rm; exact .inr ⟨e, by omega⟩
        · rw [q4, e] at over; omega
      have grow : ∀ M, SetTable.sizeAbove (SetTable.grown (L.length + 1)) - 1 = M → MaskOk M → SetTable.sizeAbove (SetTable.grown (L.length + 1)) ≤ 128 → (L.length + 1) * 5 < M * 3 →
          wpAny (model P w) A (setRelay a (SetTable.grown (L.length + 1))) (fun _ s' => wpAny (model P w) A (pure true) Q E s') E { s with heap := h1 } := fun M m1 m2 m3 m4 =>
        growN (s := { s with heap := h1 }) g4 ⟨g2.1, g2.2.1, g2.2.2⟩ rfl ents1 szp q3.dm (by rw [sz1, ln1, q4]; omega) nd1 each1 pl1 ld1 (by rw [ln1]; exact hfew) m1 m2 m3 (by rw [ln1]; exact m4) fun h2 L2 es2 ep2 t2 sb2 R2 pm2 =>
          wpAny_pure (q true h2 L2 es2 ep2 t2 (sb.trans sb2) R2 (fun y => absurd y z) fun _ => pm2.trans pm)
      rcases two with ⟨_, e2⟩ | ⟨_, e2⟩
      · exact grow 31 (by rw [e2, size_20]) (.inr (.inl rfl)) (by rw [e2, size_20]; decide) (by omega)
      · exact grow 127 (by rw [e2, size_76]) (.inr (.inr rfl)) (by rw [e2, size_76]; decide) (by omega)
    · first
        | refine wp_if_neg (by simp [hf]) ?_
        | (refine wpAny_bind ?_; refine wp_if_neg (by simp [hf]) ?_; refine wpAny_pure ?_)
      refine wpAny_pure (q true h1 L1 es1 (ep + 1) t1 sb ⟨⟨_, g4, ⟨g2.1, g2.2.1, g2.2.2⟩, rfl⟩, ents1, q3, nd1, each1, pl1, ld1, ?_, by rw [ln1]; exact hfew⟩ (fun y => absurd y z) fun _ => pm)
      have h := hf
      unfold SetTable.tooFull at h
      rw [decide_eq_true_eq, q9, List.length_map] at h
      rw [ln1]
      omega
end
end L3

/-! L3r: set(xs) for tuples of numbers; its length; sorted. -/
namespace L3
open PySem PySem.Spec PyProof.Rows L2

/-- the rows that the first i things have given -/
structure Had (ks : List (Addr × List Int)) (i : Nat) (L : List (Addr × List Int)) : Prop where
  from_ : ∀ p ∈ L, p ∈ ks.take i
  has : ∀ p ∈ ks.take i, p.2 ∈ L.map (·.2)
  len : L.length ≤ i
theorem Had.more {ks L L' : List (Addr × List Int)} {i : Nat} {x : Addr × List Int} (g : Had ks i L) (h : ks[i]? = some x) (c1 : x.2 ∈ L.map (·.2) → L' = L) (c2 : x.2 ∉ L.map (·.2) → L'.Perm (x :: L)) : Had ks (i + 1) L' := by
  have tn := take_next h
  by_cases hm : x.2 ∈ L.map (·.2)
  · rw [c1 hm]
    refine ⟨fun p hp => ?_, fun p hp => ?_, by have := g.len; omega⟩
    · rw [tn]; exact List.mem_append_left _ (g.from_ p hp)
    · rw [tn] at hp
      rcases List.mem_append.mp hp with z | z
      · exact g.has p z
      · rw [List.mem_singleton.mp z]; exact hm
  · have pm := c2 hm
    refine ⟨fun p hp => ?_, fun p hp => ?_, by have := g.len; rw [pm.length_eq]; simp; omega⟩
    · rw [tn]
      rcases List.mem_cons.mp (pm.mem_iff.mp hp) with e | z
      · rw [e]; simp
      · exact List.mem_append_left _ (g.from_ p z)
    · rw [(pm.map (·.2)).mem_iff, List.map_cons]
      rw [tn] at hp
      rcases List.mem_append.mp hp with z | z
      · exact List.mem_cons_of_mem _ (g.has p z)
      · rw [List.mem_singleton.mp z]; simp
abbrev newSet (w : World) : Obj := { cls := .type "set", dict := none, data := .set #[] 0 (.fresh 0 0 (!w.params.followText "set-order")) }
section
variable {P : Program} {w : World} {A : Around} {E : Value → Shared → Prop} {s : Shared}
theorem SetN.keep {h h' : Heap} {a : Addr} {L : List (Addr × List Int)} {es : Array (Int × Value)} {ep : Nat} {t : SetTable} (R : SetN P w h a L es ep t) (k1 : ∀ o, h.get? a = some o → h'.get? a = some o) (k2 : ∀ p ∈ L, IsN h' p.2 p.1) : SetN P w h' a L es ep t :=
  let ⟨o, g1, g2⟩ := R.at_
  ⟨⟨o, k1 o g1, g2⟩, R.ents, R.tab, R.nodup, k2, R.plain, R.led, R.room, R.few⟩
theorem setN_new {h : Heap} {a : Addr} (g1 : h.get? a = some (newSet w)) : SetN P w h a [] #[] 0 (.fresh 0 0 (!w.params.followText "set-order")) where
  at_ := ⟨_, g1, ⟨rfl, rfl, rfl⟩, rfl⟩
  ents := rfl
  tab := ⟨.nil, rfl, rfl, .inl rfl, fun x hx => (by cases hx), fun i h j hi => (by simp at hi)⟩
  nodup := .nil
  each := fun p hp => (by cases hp)
  plain := rfl
  led := by
    show _ ∨ (!w.params.followText "set-order") = true
    cases w.params.followText "set-order" <;> simp
  room := (by decide : 0 * 5 < 7 * 3)
  few := (by decide : 0 < 64)
/-- the loop of set.update -/
theorem updN {I : Addr} {fp wr : List Addr} {G : Array GenState → Array GenState → Prop} {n : Nat} {Pv : Nat → Value → Prop} {St : Nat → Shared → Prop} {R : Result → Shared → Prop}
    (W : WalksS P w A.in1 I fp wr G n Pv St) (S0 : Addr) (nS : S0 ∉ fp) (ks : List (Addr × List Int)) (hn : n = ks.length) (few : ks.length < 64) (val : ∀ i v, Pv i v → ∃ p, ks[i]? = some p ∧ v = .ref p.1)
    (h0 : Heap) (each : ∀ p ∈ ks, IsN h0 p.2 p.1) (z0 : h0.get? S0 = none) (zw : ∀ b ∈ wr, h0.get? b = none) (hu : A.units + 9 < cLine) :
    ∀ (k i : Nat) (s : Shared), n - i = k → i ≤ n → St i s → (∀ b o, h0.get? b = some o → s.heap.get? b = some o) → (∃ L es ep t, SetN P w s.heap S0 L es ep t ∧ Had ks i L) →
      (∀ s' L es ep t, Moved (S0 :: wr) G s s' → SetN P w s'.heap S0 L es ep t → Had ks n L → (∀ b o, h0.get? b = some o → s'.heap.get? b = some o) → R (.ok (.ret .none)) s') →
      codeAny (model P w) A (.builtin "set.update.loop" ⟨[.ref S0, .ref I], []⟩) R s := by
  have nw : S0 ∉ wr := fun h => nS (W.sub _ h)
  have inS : ∀ b ∈ wr, b ∈ S0 :: wr := fun b hb => List.mem_cons_of_mem _ hb
  have hu1 : A.in1.units + 8 < cLine := by show A.units + 1 + 8 < cLine; omega
  have still : ∀ {s s' : Shared}, Moved wr G s s' → (∀ b o, h0.get? b = some o → s.heap.get? b = some o) → ∀ b o, h0.get? b = some o → s'.heap.get? b = some o := fun mv old b o e =>
    mv.heap b o (fun hb => by rw [zw b hb] at e; cases e) (old b o e)
  intro k
  induction k with
  | zero =>
    intro i s ek li st old ⟨L, es, ep, t, R1, g⟩ fin
    obtain rfl : i = n := by omega
    refine codeAny_builtin F.entry_set_update_loop ?_
    rw [Around.under_plainId F.plain_set_update_loop _]
    show wpAny _ A.in1 (pyNext (.ref I) >>= _) _ _ s
    refine wpAny_bind (W.done s _ _ st fun s' mv => ?_)
    show wpAny _ A.in1 (ret Value.none) _ _ s'
    have old' := still mv old
    exact wpAny_pure (fin s' L es ep t (mv.mono inS) (R1.keep (fun o e => mv.heap S0 o nw e) fun p hp => (each p (List.mem_of_mem_take (g.from_ p hp))).keep old') g old')
  | succ k ih =>
    intro i s ek li st old ⟨L, es, ep, t, R1, g⟩ fin
    have lt : i < n := by omega
    refine codeAny_builtin F.entry_set_update_loop ?_
    rw [Around.under_plainId F.plain_set_update_loop _]
    show wpAny _ A.in1 (pyNext (.ref I) >>= _) _ _ s
    refine wpAny_bind (W.item i s _ _ lt st fun v s' pv st' mv => ?_)
    obtain ⟨p, pe, rfl⟩ := val i v pv
    have old' := still mv old
    have R2 : SetN P w s'.heap S0 L es ep t := R1.keep (fun o e => mv.heap S0 o nw e) fun q hq => (each q (List.mem_of_mem_take (g.from_ q hq))).keep old'
    have px : IsN s'.heap p.2 p.1 := (each p (List.mem_of_getElem? pe)).keep old'
    show wpAny _ A.in1 (holding [Value.ref p.1] (setAdd S0 (.ref p.1)) >>= _) _ _ s'
    refine wpAny_bind (wpAny_holding ?_)
    unfold setAdd
    refine wpAny_holding ?_
    refine wpAny_bind (hashN hu1 px ?_)
    refine addN (s := { s' with toks := s'.toks + NestedKey.draws (nkT p.2) }) R2 px hu1 (by have := g.len; omega) fun b h' L' es' ep' t' sb R3 c1 c2 => ?_
    have old2 : ∀ b o, h0.get? b = some o → h'.get? b = some o := fun b o e => (sb.2 b (fun z => by rw [z, z0] at e; cases e)).trans (old' b o e)
    have nb : ∀ b ∈ fp, b ≠ S0 := fun b hb z => nS (z ▸ hb)
    refine wpAny_pure ⟨plainId_quiet F.plain_set_update_loop _, ih (i + 1) _ (by omega) lt (W.frame _ s' _ _ st' (Nat.le_add_right _ _) fun b hb o e => (sb.2 b (nb b hb)).trans e) old2 ⟨L', es', ep', t', R3, g.more pe c1 c2⟩ fun s'' L2 es2 ep2 t2 mv2 R4 g4 old4 => ?_⟩
    refine fin s'' L2 es2 ep2 t2 (Moved.trans W.gtrans ((mv.mono inS).then_heap (Nat.le_add_right _ _) fun b o hb e => ?_) mv2) R4 g4 old4
    exact (sb.2 b fun z => hb (by rw [z]; exact List.mem_cons_self)).trans e
set_option maxRecDepth 100000 in
set_option maxHeartbeats 3200000 in
/-- set(xs) of a list or a tuple; the loop that fills it is told apart -/
theorem setCall {l : Addr} {items : Array Value} (tup : Bool) {Φ : Heap → Prop} {Q : Value → Shared → Prop} (hh : A.handled = none) (hl : if tup then s.heap.IsTuple l items else s.heap.IsList l items)
    (upd : ∀ {I : Addr} {fp wr : List Addr} {G : Array GenState → Array GenState → Prop} {Pv : Nat → Value → Prop} {St : Nat → Shared → Prop} {R : Result → Shared → Prop}, WalksS P w A.in1.in1.in1 I fp wr G items.size Pv St → s.heap.objs.size ∉ fp →
      (∀ i v, Pv i v → items[i]? = some v) → (∀ b ∈ wr, s.heap.get? b = none) → ∀ s1, St 0 s1 → (∀ b o, s.heap.get? b = some o → s1.heap.get? b = some o) → s1.heap.get? s.heap.objs.size = some (newSet w) →
      (∀ s', Moved (s.heap.objs.size :: wr) G s1 s' → Φ s'.heap → R (.ok (.ret .none)) s') → codeAny (model P w) A.in1.in1 (.builtin "set.update.loop" ⟨[.ref s.heap.objs.size, .ref I], []⟩) R s1)
    (fin : ∀ (h' : Heap) (tk : Nat), Φ h' → (∀ b o, s.heap.get? b = some o → h'.get? b = some o) → Q (.ref s.heap.objs.size) { s with heap := h', toks := tk }) :
    wpAny (model P w) A (call (.type "set") [.ref l]) Q E s := by
  have fresh : ∀ b, s.heap.objs.size ≤ b → s.heap.get? b = none := fun b hb => by
    cases q : s.heap.get? b with
    | none => rfl
    | some o => exact absurd (Nat.lt_of_lt_of_le (Heap.lt_size q) hb) (Nat.lt_irrefl _)
  have lS : l < s.heap.objs.size := by
    cases tup
    · obtain ⟨_, q, _⟩ := hl; exact Heap.lt_size q
    · obtain ⟨_, q, _⟩ := hl; exact Heap.lt_size q
  obtain ⟨c, tl, hmro⟩ := F.called_set.mro
  have hmade := F.called_set.made
  have hsub := F.called_set.sub
  refine wpAny_call (codeAny_of_tree ?_)
  show wpAny _ _ (callAny (.type "set") _) _ _ _
  refine wpAny_pure ⟨Code.quiet_builtin _ (by decide +kernel), codeAny_builtin F.entry_type_call ?_⟩
  rw [Around.under_plain (weight_type_call_type "set" [.ref l] []) rfl]
  have h1 := F.called_set.notType
  have h2 := F.called_set.canCreate
  have hct := F.typeCall_set_1 (.ref l)
  repeat (any_goals (first | assumption | wp_step))
  refine codeAny_mono (code_set_led1 (.ref l) (E := E) (Q₁ := fun x z => x = .ref s.heap.objs.size ∧ z = { s with heap := s.heap.push (newSet w) }) ⟨rfl, rfl⟩) fun r z hr => ?_
  cases r with
  | error e => exact hr
  | ok fl =>
    cases fl with
    | ret obj =>
      obtain ⟨rfl, rfl⟩ := hr
      have gS : (s.heap.push (newSet w)).get? s.heap.objs.size = some (newSet w) := Heap.get?_push_size _ rfl
      have hT : Shared.TypeIs { s with heap := s.heap.push (newSet w) } (.ref s.heap.objs.size) "set" := ⟨_, gS, rfl⟩
      have hli := F.called_set.init.lookup
      have hbi := F.called_set.init.bind (.ref s.heap.objs.size)
      repeat (any_goals (first | assumption | wp_step))
      refine codeAny_mono (codeAny_call_builtin (R := wants (fun r z => r = .none ∧ ∃ h' tk, z = { s with heap := h', toks := tk } ∧ Φ h' ∧ (∀ b o, s.heap.get? b = some o → h'.get? b = some o)) E) F.called_set.init.plain F.entry_set_init (check_set_init_1 hT ?_)) fun r2 z2 hr2 => ?_
      · have hh3 : A.in1.in1.in1.handled = none := by simp [hh]
        have nI : l ≠ (s.heap.push (newSet w)).objs.size := by rw [Heap.size_push]; exact Nat.ne_of_lt (Nat.lt_succ_of_lt lS)
        have nS : s.heap.objs.size ∉ [(s.heap.push (newSet w)).objs.size, l] := by
          rw [Heap.size_push]
          simp only [List.mem_cons, List.not_mem_nil, or_false, not_or]
          exact ⟨Nat.ne_of_lt (Nat.lt_succ_self _), Nat.ne_of_gt lS⟩
        have zw : ∀ b ∈ [(s.heap.push (newSet w)).objs.size], s.heap.get? b = none := fun b hb => fresh b (by
          rw [List.mem_singleton.mp hb, Heap.size_push]
          exact Nat.le_succ _)
        have gz : ∀ o : Obj, ((s.heap.push (newSet w)).push o).get? s.heap.objs.size = some (newSet w) := fun o => Heap.get?_push_of_some _ gS
        have kz : ∀ (o : Obj) b u, s.heap.get? b = some u → ((s.heap.push (newSet w)).push o).get? b = some u := fun o b u e => Heap.get?_push_of_some _ (Heap.get?_push_of_some _ e)
        have tail : ∀ (o : Obj) (s' : Shared), Moved [s.heap.objs.size, (s.heap.push (newSet w)).objs.size] (fun a b => b = a) { s with heap := (s.heap.push (newSet w)).push o } s' → Φ s'.heap →
            wants (fun r z => r = .none ∧ ∃ h' tk, z = { s with heap := h', toks := tk } ∧ Φ h' ∧ (∀ b o, s.heap.get? b = some o → h'.get? b = some o)) E (.ok (.ret .none)) s' := fun o s' mv φ => by
          obtain ⟨h', g2, d', tk', os'⟩ := s'
          have eg : g2 = s.gens := mv.gens
          have ed : d' = s.drawn := mv.drawn
          have eo : os' = s.os := mv.os
          subst eg; subst ed; subst eo
          refine ⟨rfl, h', tk', rfl, φ, fun b u e => mv.heap b u (fun hb => ?_) (kz o b u e)⟩
          rcases List.mem_cons.mp hb with z | z
          · rw [z, fresh _ (Nat.le_refl _)] at e; cases e
          · rw [zw b z] at e; cases e
        obtain ⟨T, eT, s1, s2, s3, ol, hol, hcl, nl, hdl⟩ : ∃ T : String, T = (if tup then "tuple" else "list") ∧ isSubtype (.type T) (.type "set") = pure false ∧ isSubtype (.type T) (.type "frozenset") = pure false ∧ (Value.type T == Value.type "dict") = false ∧
            ∃ ol, s.heap.get? l = some ol ∧ ol.cls = .type T ∧ ∃ n, ol.data = .seq items n := by
          cases tup
          · exact ⟨"list", rfl, F.sub_list_set, F.sub_list_frozenset, by decide, hl⟩
          · exact ⟨"tuple", rfl, F.sub_tuple_set, F.sub_tuple_frozenset, by decide, hl⟩
        obtain ⟨ocls, odict, odata, oslots⟩ := ol
        simp only at hcl hdl
        subst hcl; subst hdl
        have hol' := Heap.get?_push_of_some (newSet w) hol
        unfold Builtin.«set.__init__» noKeywords Builtin.Frozenset.updateFrom
        generalize hPI : pyIter = PI
        wp_walk
        subst hPI
        cases tup with
        | false =>
          subst eT
          have hl1 : (s.heap.push (newSet w)).IsList l items := ⟨_, hol', rfl, nl, rfl⟩
          refine wp_if_neg (fun z => by rw [s3] at z; cases z) ?_
          refine wpAny_bind (wpAny_pyIter_list (s := { s with heap := s.heap.push (newSet w) }) hl1 ?_)
          refine wpAny_bind (wpAny_runValue ?_)
          refine upd ((Walks.list hh3 _ l nI items).toS) nS (fun _ _ z => z) zw _ ⟨⟨_, Heap.get?_push_size _ rfl, rfl, rfl⟩, (hl1.push _)⟩ (kz _) (gz _) ?_
          intro s' mv φ
          show wpAny _ _ _ _ _ _
          refine wpAny_pure ?_
          show wpAny _ _ (ret Value.none) _ _ _
          exact wpAny_pure (tail _ s' mv φ)
        | true =>
          subst eT
          have hl1 : (s.heap.push (newSet w)).IsTuple l items := ⟨_, hol', rfl, nl, rfl⟩
          refine wp_if_neg (fun z => by rw [s3] at z; cases z) ?_
          refine wpAny_bind (wpAny_pyIter_tuple (s := { s with heap := s.heap.push (newSet w) }) hl1 ?_)
          refine wpAny_bind (wpAny_runValue ?_)
          refine upd ((Walks.tuple hh3 _ l nI items).toS) nS (fun _ _ z => z) zw _ ⟨⟨_, Heap.get?_push_size _ rfl, rfl, rfl⟩, (hl1.push _)⟩ (kz _) (gz _) ?_
          intro s' mv φ
          show wpAny _ _ _ _ _ _
          refine wpAny_pure ?_
          show wpAny _ _ (ret Value.none) _ _ _
          exact wpAny_pure (tail _ s' mv φ)
      · cases r2 with
        | error e => exact hr2
        | ok fl2 =>
          cases fl2 with
          | ret r =>
            obtain ⟨rfl, h', tk, rfl, φ, old⟩ := hr2
            repeat (any_goals (first | assumption | wp_step))
            exact fin _ _ φ old
          | _ => exact hr2.elim
    | _ => exact hr.elim
/-- set(xs) of tuples of numbers -/
theorem setOfN {l : Addr} {items : Array Value} (tup : Bool) (ks : List (Addr × List Int)) {Q : Value → Shared → Prop} (hh : A.handled = none) (hl : if tup then s.heap.IsTuple l items else s.heap.IsList l items) (eq : items.toList = ks.map fun p => Value.ref p.1)
    (each : ∀ p ∈ ks, IsN s.heap p.2 p.1) (few : ks.length < 64) (hu : A.units + 16 < cLine)
    (fin : ∀ (h' : Heap) (tk : Nat) L es ep t, SetN P w h' s.heap.objs.size L es ep t → Had ks ks.length L → (∀ b o, s.heap.get? b = some o → h'.get? b = some o) → Q (.ref s.heap.objs.size) { s with heap := h', toks := tk }) :
    wpAny (model P w) A (call (.type "set") [.ref l]) Q E s := by
  have nsz : items.size = ks.length := by
    have := congrArg List.length eq
    simpa using this
  have z0 : s.heap.get? s.heap.objs.size = none := by
    cases q : s.heap.get? s.heap.objs.size with
    | none => rfl
    | some o => exact absurd (Heap.lt_size q) (Nat.lt_irrefl _)
  have val : ∀ (i : Nat) (v : Value), items[i]? = some v → ∃ p, ks[i]? = some p ∧ v = .ref p.1 := fun i v hv => by
    rw [← Array.getElem?_toList, eq, List.getElem?_map] at hv
    cases q : ks[i]? with
    | none => rw [q] at hv; cases hv
    | some p => rw [q] at hv; exact ⟨p, rfl, (Option.some.inj hv).symm⟩
  refine setCall (Φ := fun h' => ∃ L es ep t, SetN P w h' s.heap.objs.size L es ep t ∧ Had ks ks.length L) tup hh hl (fun W nS pv zw s1 st old g0 k => ?_) fun h' tk ⟨L, es, ep, t, R, g⟩ old => fin h' tk L es ep t R g old
  refine updN W s.heap.objs.size nS ks nsz few (fun i v z => val i v (pv i v z)) s.heap each z0 zw (by show A.units + 1 + 1 + 9 < cLine; omega) (items.size - 0) 0 s1 (by omega) (Nat.zero_le _) st old ⟨[], #[], 0, _, setN_new g0, ⟨fun p h => (by cases h), fun p h => (by simp at h), Nat.le_refl _⟩⟩ fun s' L es ep t mv R g _ => ?_
  exact k s' mv ⟨L, es, ep, t, R, nsz ▸ g⟩
/-- set(xs) of ints -/
theorem setOfI {l : Addr} {items : Array Value} (tup : Bool) (ns : List Int) {Q : Value → Shared → Prop} (hh : A.handled = none) (hl : if tup then s.heap.IsTuple l items else s.heap.IsList l items) (eq : IntsAre items.toList ns) (few : ns.length + 1 < scanBound)
    (fin : ∀ (h' : Heap) (tk c : Nat), SetR w h' s.heap.objs.size (fun j => decide (j ∈ ns)) c → c ≤ ns.length → (∀ b o, s.heap.get? b = some o → h'.get? b = some o) → Q (.ref s.heap.objs.size) { s with heap := h', toks := tk }) :
    wpAny (model P w) A (call (.type "set") [.ref l]) Q E s := by
  have nsz : items.size = ns.length := by
    have := IntsAre.length eq
    rw [Array.length_toList] at this
    exact this
  have val : ∀ (i : Nat) (v : Value), items[i]? = some v → ∃ k t, ns[i]? = some k ∧ v = .int k t := fun i v hv => by
    have li : i < ns.length := by rw [← nsz]; exact (Array.getElem?_eq_some_iff.mp hv).1
    obtain ⟨t, e⟩ := IntsAre.int_at eq i v (by rw [Array.getElem?_toList]; exact hv)
    refine ⟨ns[i], t, List.getElem?_eq_getElem li, ?_⟩
    rw [e, List.getD_eq_getElem?_getD, List.getElem?_eq_getElem li]
    rfl
  refine setCall (Φ := fun h' => ∃ c, c ≤ ns.length ∧ SetR w h' s.heap.objs.size (fun j => decide (j ∈ ns)) c) tup hh hl (fun W nS pv zw s1 st old g0 k => ?_) fun h' tk ⟨c, lc, R⟩ old => fin h' tk c R lc old
  refine set_update_ints W s.heap.objs.size nS ns nsz few (fun i v z => val i v (pv i v z)) (items.size - 0) 0 s1 (by omega) (Nat.zero_le _) st ⟨0, Nat.le_refl 0, setR_new_at g0⟩ fun s' c mv lc R => ?_
  exact k s' mv ⟨c, nsz ▸ lc, R⟩
end
end L3

/-! L3s: sorted(set(xs)), len(set(xs)) as one step each. -/
namespace L3
open PySem PySem.Spec PyProof.Rows L2

/-! ### rows of numbers -/
def numD : D → Option Int
  | .int i => some i
  | .bl b => some (if b then 1 else 0)
  | _ => none
def numsD : List D → Option (List Int)
  | [] => some []
  | d :: ds => (numD d).bind fun i => (numsD ds).map fun is => i :: is
def rowD : D → Option (List Int)
  | .tup ds => numsD ds
  | _ => none
def isBl : D → Bool
  | .bl _ => true
  | _ => false
def shpD : D → List Bool
  | .tup ds => ds.map isBl
  | _ => []
def keyR (d : D) : List Int := (rowD d).getD []
/-- the order of rows -/
def ltR : List Int → List Int → Bool
  | [], [] => false
  | [], _ :: _ => true
  | _ :: _, [] => false
  | i :: is, j :: js => decide (i < j) || (decide (i = j) && ltR is js)
theorem ltR_irrefl : ∀ a, ltR a a = false
  | [] => rfl
  | i :: is => by simp [ltR, ltR_irrefl is]
theorem ltR_trans : ∀ a b c, ltR a b = true → ltR b c = true → ltR a c = true
  | [], [], _, h, _ => by simp [ltR] at h
  | [], _ :: _, [], _, h => by simp [ltR] at h
  | [], _ :: _, _ :: _, _, _ => rfl
  | _ :: _, [], _, h, _ => by simp [ltR] at h
  | _ :: _, _ :: _, [], _, h => by simp [ltR] at h
  | i :: is, j :: js, k :: ks, h1, h2 => by
    simp only [ltR, Bool.or_eq_true, Bool.and_eq_true, decide_eq_true_eq] at h1 h2 ⊢
    rcases h1 with h1 | ⟨h1, h1'⟩ <;> rcases h2 with h2 | ⟨h2, h2'⟩
    · left; omega
    · left; omega
    · left; omega
    · right; exact ⟨by omega, ltR_trans is js ks h1' h2'⟩
theorem ltR_tri : ∀ a b, ltR a b = true ∨ a = b ∨ ltR b a = true
  | [], [] => .inr (.inl rfl)
  | [], _ :: _ => .inl rfl
  | _ :: _, [] => .inr (.inr rfl)
  | i :: is, j :: js => by
    simp only [ltR, Bool.or_eq_true, Bool.and_eq_true, decide_eq_true_eq, List.cons.injEq]
    rcases Int.lt_trichotomy i j with h | h | h
    · exact .inl (.inl h)
    · rcases ltR_tri is js with z | z | z
      · exact .inl (.inr ⟨h, z⟩)
      · exact .inr (.inl ⟨h, z⟩)
      · exact .inr (.inr (.inr ⟨h.symm, z⟩))
    · exact .inr (.inr (.inl h))
theorem ltR_asymm {a b : List Int} (h : ltR a b = true) : ltR b a = false := by
  cases z : ltR b a with
  | false => rfl
  | true => exact absurd (ltR_trans a b a h z) (by rw [ltR_irrefl]; simp)
def insR (d : D) : List D → List D
  | [] => [d]
  | e :: es => if ltR (keyR d) (keyR e) then d :: e :: es else if keyR d = keyR e then e :: es else e :: insR d es
def canonR (ds : List D) : List D := ds.foldr insR []
def okRows (ds : List D) : Bool := ds.all fun d => (rowD d).isSome && decide (shpD d = shpD (ds.headD .non))
theorem insR_key (d x : D) : ∀ es, x ∈ insR d es → x = d ∨ x ∈ es
  | [], h => by simp [insR] at h; exact .inl h
  | e :: es, h => by
    unfold insR at h
    split at h
    · rcases List.mem_cons.mp h with z | z
      · exact .inl z
      · exact .inr z
    · split at h
      · exact .inr h
      · rcases List.mem_cons.mp h with z | z
        · exact .inr (by simp [z])
        · rcases insR_key d x es z with y | y
          · exact .inl y
          · exact .inr (by simp [y])
theorem insR_has (d : D) : ∀ es, (∃ x ∈ insR d es, keyR x = keyR d) ∧ ∀ x ∈ es, x ∈ insR d es
  | [] => ⟨⟨d, by simp [insR], rfl⟩, fun x h => by cases h⟩
  | e :: es => by
    obtain ⟨h1, h2⟩ := insR_has d es
    unfold insR
    split
    · exact ⟨⟨d, by simp, rfl⟩, fun x h => by simp [List.mem_cons.mp h]⟩
    · split
      · rename_i h
        exact ⟨⟨e, by simp, h.symm⟩, fun x h => h⟩
      · obtain ⟨x, hx, ek⟩ := h1
        refine ⟨⟨x, by simp [hx], ek⟩, fun x h => ?_⟩
        rcases List.mem_cons.mp h with z | z
        · simp [z]
        · simp [h2 x z]
abbrev upR (ds : List D) : Prop := ds.Pairwise fun d e => ltR (keyR d) (keyR e) = true
theorem insR_up (d : D) : ∀ es, upR es → upR (insR d es)
  | [], _ => by simp [insR, upR]
  | e :: es, h => by
    obtain ⟨h1, h2⟩ := List.pairwise_cons.mp h
    unfold insR
    split
    · rename_i hd
      refine List.pairwise_cons.mpr ⟨fun x hx => ?_, h⟩
      rcases List.mem_cons.mp hx with z | z
      · rw [z]; exact hd
      · exact ltR_trans _ _ _ hd (h1 x z)
    · split
      · exact h
      · rename_i hd hk
        refine List.pairwise_cons.mpr ⟨fun x hx => ?_, insR_up d es h2⟩
        rcases insR_key d x es hx with z | z
        · rw [z]
          rcases ltR_tri (keyR d) (keyR e) with y | y | y
          · exact absurd y hd
          · exact absurd y hk
          · exact y
        · exact h1 x z
theorem canonR_up : ∀ ds, upR (canonR ds)
  | [] => .nil
  | d :: ds => insR_up d _ (canonR_up ds)
theorem canonR_sub (x : D) : ∀ ds, x ∈ canonR ds → x ∈ ds
  | [], h => by cases h
  | d :: ds, h => by
    rcases insR_key d x _ h with z | z
    · simp [z]
    · simp [canonR_sub x ds z]
theorem canonR_has : ∀ (ds : List D), ∀ d ∈ ds, ∃ x ∈ canonR ds, keyR x = keyR d
  | d :: ds, e, h => by
    obtain ⟨h1, h2⟩ := insR_has d (canonR ds)
    rcases List.mem_cons.mp h with z | z
    · rw [z]; exact h1
    · obtain ⟨x, hx, ek⟩ := canonR_has ds e z
      exact ⟨x, h2 x hx, ek⟩
/-- rising lists with the same members -/
theorem upR_one : ∀ (as bs : List D), upR as → upR bs → (∀ x, x ∈ as ↔ x ∈ bs) → as = bs
  | [], [], _, _, _ => rfl
  | [], b :: bs, _, _, h => absurd ((h b).mpr (by simp)) (by simp)
  | a :: as, [], _, _, h => absurd ((h a).mp (by simp)) (by simp)
  | a :: as, b :: bs, h1, h2, h => by
    obtain ⟨p1, p2⟩ := List.pairwise_cons.mp h1
    obtain ⟨q1, q2⟩ := List.pairwise_cons.mp h2
    have e : a = b := by
      rcases List.mem_cons.mp ((h a).mp (by simp)) with z | z
      · exact z
      · rcases List.mem_cons.mp ((h b).mpr (by simp)) with y | y
        · exact y.symm
        · have z1 := q1 a z
          have z2 := ltR_asymm (p1 b y)
          rw [z1] at z2
          cases z2
    subst e
    congr 1
    refine upR_one as bs p2 q2 fun x => ⟨fun hx => ?_, fun hx => ?_⟩
    · rcases List.mem_cons.mp ((h x).mp (by simp [hx])) with z | z
      · subst z
        have := p1 x hx
        rw [ltR_irrefl] at this
        cases this
      · exact z
    · rcases List.mem_cons.mp ((h x).mpr (by simp [hx])) with z | z
      · subst z
        have := q1 x hx
        rw [ltR_irrefl] at this
        cases this
      · exact z
theorem row_one : ∀ {as bs : List D} {k : List Int}, numsD as = some k → numsD bs = some k → as.map isBl = bs.map isBl → as = bs
  | [], [], _, _, _, _ => rfl
  | [], b :: bs, k, h1, h2, _ => by
    simp [numsD] at h1; subst h1
    simp only [numsD, Option.bind_eq_some_iff, Option.map_eq_some_iff] at h2
    obtain ⟨_, _, _, _, h⟩ := h2
    cases h
  | a :: as, [], k, h1, h2, _ => by
    simp [numsD] at h2; subst h2
    simp only [numsD, Option.bind_eq_some_iff, Option.map_eq_some_iff] at h1
    obtain ⟨_, _, _, _, h⟩ := h1
    cases h
  | a :: as, b :: bs, k, h1, h2, h3 => by
    simp only [numsD, Option.bind_eq_some_iff, Option.map_eq_some_iff] at h1 h2
    obtain ⟨i, e1, is, e2, rfl⟩ := h1
    obtain ⟨j, e3, js, e4, h⟩ := h2
    simp only [List.cons.injEq] at h
    obtain ⟨rfl, rfl⟩ := h
    simp only [List.map_cons, List.cons.injEq] at h3
    rw [row_one e2 e4 h3.2]
    congr 1
    have h := h3.1
    cases a <;> cases b <;> simp_all [numD, isBl]
    · rename_i c d
      cases c <;> cases d <;> simp_all <;> omega
theorem rows_one {a b : D} {k : List Int} (h1 : rowD a = some k) (h2 : rowD b = some k) (h3 : shpD a = shpD b) : a = b := by
  cases a <;> simp [rowD] at h1
  cases b <;> simp [rowD] at h2
  rw [row_one h1 h2 h3]
theorem rowD_key {d : D} {k : List Int} (h : rowD d = some k) : keyR d = k := by simp [keyR, h]
theorem numsD_nks : ∀ {ds : List D} {k : List Int}, numsD ds = some k → nks ds = some (k.map .num)
  | [], k, h => by simp [numsD] at h; subst h; rfl
  | d :: ds, k, h => by
    simp only [numsD, Option.bind_eq_some_iff, Option.map_eq_some_iff] at h
    obtain ⟨i, e1, is, e2, rfl⟩ := h
    have e3 : nk d = some (.num i) := by
      cases d <;> simp [numD] at e1
      · subst e1; simp [nk]
      · subst e1; simp [nk]
    simp [nks, e3, numsD_nks e2]
theorem rowD_nk {d : D} {k : List Int} (h : rowD d = some k) : nk d = some (nkT k) := by
  cases d <;> simp [rowD] at h
  simp [nk, numsD_nks h]
/-! their data -/
def pyN : D → PyData
  | .int i => .int i
  | .bl b => .bool b
  | _ => .none
def pyR : D → PyData
  | .tup ds => .tuple (ds.map pyN)
  | _ => .none
theorem tokN {a : D} {i : Int} (h : numD a = some i) : PySem.W.keyToks (pyN a) = [.inl i] := by
  cases a <;> simp [numD] at h
  · subst h; simp [pyN, PySem.W.keyToks]
  · subst h; simp [pyN, PySem.W.keyToks]
theorem bltN (x y : Int) : PyProof.Rows.itemOrd.blt (.inl x) (.inl y) = decide (x < y) := rfl
theorem lexN (x y : Int) (r t : List (Int ⊕ List Nat)) : PyProof.Rows.lexLt PyProof.Rows.itemOrd (.inl x :: r) (.inl y :: t) = (decide (x < y) || (!decide (y < x) && PyProof.Rows.lexLt PyProof.Rows.itemOrd r t)) := by
  rw [PyProof.Rows.lex_cons (O := PyProof.Rows.itemOrd), bltN, bltN]
theorem toksN : ∀ {as bs : List D} {j k : List Int}, numsD as = some j → numsD bs = some k → PyProof.Rows.lexLt PyProof.Rows.itemOrd (PySem.W.keyToksAll (as.map pyN)) (PySem.W.keyToksAll (bs.map pyN)) = ltR j k
  | [], [], j, k, h1, h2 => by
    simp [numsD] at h1 h2; subst h1; subst h2
    exact PyProof.Rows.lex_irrefl (O := PyProof.Rows.itemOrd) _
  | [], b :: bs, j, k, h1, h2 => by
    simp [numsD] at h1; subst h1
    simp only [numsD, Option.bind_eq_some_iff, Option.map_eq_some_iff] at h2
    obtain ⟨i, _, is, _, rfl⟩ := h2
    simp only [List.map_nil, List.map_cons, PySem.W.keyToksAll]
    rw [lexN]
    rfl
  | a :: as, [], j, k, h1, h2 => by
    simp [numsD] at h2; subst h2
    simp only [numsD, Option.bind_eq_some_iff, Option.map_eq_some_iff] at h1
    obtain ⟨i, _, is, _, rfl⟩ := h1
    simp only [List.map_nil, List.map_cons, PySem.W.keyToksAll]
    rw [lexN]
    rfl
  | a :: as, b :: bs, j, k, h1, h2 => by
    simp only [numsD, Option.bind_eq_some_iff, Option.map_eq_some_iff] at h1 h2
    obtain ⟨i, e1, is, e2, rfl⟩ := h1
    obtain ⟨i', e3, is', e4, rfl⟩ := h2
    have ih := toksN e2 e4
    simp only [List.map_cons, PySem.W.keyToksAll, tokN e1, tokN e3, List.singleton_append]
    rw [lexN, lexN, ih]
    simp only [ltR]
    rcases Int.lt_trichotomy i i' with h | h | h
    · have h3 : ¬ i' < i := by omega
      simp [h, h3]
    · subst h; simp
    · have h3 : ¬ i < i' := by omega
      have h4 : ¬ i = i' := by omega
      simp [h, h3, h4]
theorem ltPy {a b : D} {j k : List Int} (h1 : rowD a = some j) (h2 : rowD b = some k) : PySem.W.dataLt (pyR a) (pyR b) = ltR j k := by
  cases a <;> simp [rowD] at h1
  cases b <;> simp [rowD] at h2
  simp only [pyR, PySem.W.dataLt, PySem.W.keyToks]
  exact toksN h1 h2
theorem alikeN : ∀ {as bs : List D} {j k : List Int}, numsD as = some j → numsD bs = some k → as.map isBl = bs.map isBl → PySem.W.alikeAll (as.map pyN) (bs.map pyN) = true
  | [], bs, _, _, _, _, _ => by simp [PySem.W.alikeAll]
  | a :: as, [], _, _, _, _, _ => by simp [PySem.W.alikeAll]
  | a :: as, b :: bs, j, k, h1, h2, h3 => by
    simp only [numsD, Option.bind_eq_some_iff, Option.map_eq_some_iff] at h1 h2
    obtain ⟨i, e1, is, e2, rfl⟩ := h1
    obtain ⟨i', e3, is', e4, rfl⟩ := h2
    simp only [List.map_cons, List.cons.injEq] at h3
    have ih := alikeN e2 e4 h3.2
    simp only [List.map_cons, PySem.W.alikeAll, ih, Bool.and_true]
    have h := h3.1
    cases a <;> cases b <;> simp_all [numD, isBl, pyN, PySem.W.alike]
theorem alikeR {a b : D} {j k : List Int} (h1 : rowD a = some j) (h2 : rowD b = some k) (h3 : shpD a = shpD b) : PySem.W.alike (pyR a) (pyR b) = true := by
  cases a <;> simp [rowD] at h1
  cases b <;> simp [rowD] at h2
  simp only [pyR, PySem.W.alike]
  exact alikeN h1 h2 h3
theorem depthR (a : D) : (pyR a).depth ≤ 1 := by
  have : ∀ ds : List D, PyData.depthAll (ds.map pyN) = 0 := fun ds => by
    induction ds with
    | nil => rfl
    | cons d ds ih => cases d <;> simp [PyData.depthAll, PyData.depth, pyN, ih]
  cases a <;> simp [pyR, PyData.depth, this]
end L3

/-! L3t: sorted(set(xs)), len(set(xs)). -/
namespace L3
open PySem PySem.Spec PyProof.Rows L2 PySem.W

theorem perm_map_ex {α β : Type} {f : α → β} {l₁ l₂ : List β} (h : l₁.Perm l₂) : ∀ M : List α, l₂ = M.map f → ∃ M' : List α, M'.Perm M ∧ M'.map f = l₁ := by
  induction h with
  | nil => intro M e; cases M with
    | nil => exact ⟨[], .nil, rfl⟩
    | cons _ _ => cases e
  | cons x _ ih => intro M e; cases M with
    | nil => cases e
    | cons m M =>
      simp only [List.map_cons, List.cons.injEq] at e
      obtain ⟨M', p, e2⟩ := ih M e.2
      exact ⟨m :: M', p.cons m, by simp [e.1, e2]⟩
  | swap x y l => intro M e; cases M with
    | nil => cases e
    | cons m M => cases M with
      | nil => simp at e
      | cons m2 M =>
        simp only [List.map_cons, List.cons.injEq] at e
        exact ⟨m2 :: m :: M, .swap m m2 M, by simp [e.1, e.2.1, e.2.2]⟩
  | trans _ _ ih1 ih2 =>
    intro M e
    obtain ⟨M1, p1, e1⟩ := ih2 M e
    obtain ⟨M2, p2, e2⟩ := ih1 M1 e1.symm
    exact ⟨M2, p2.trans p1, e2⟩
theorem eachIs_eq {α β : Type} {f : β → α} : ∀ {as : List α} {bs : List β}, EachIs (fun v b => v = f b) as bs → as = bs.map f
  | _, _, .nil => rfl
  | _, _, .cons h t => by rw [h, eachIs_eq t]; rfl
theorem eachIs_map {α β : Type} {R : α → β → Prop} {f : β → α} : ∀ {bs : List β}, (∀ b ∈ bs, R (f b) b) → EachIs R (bs.map f) bs
  | [], _ => .nil
  | b :: bs, h => .cons (h b (by simp)) (eachIs_map fun c hc => h c (by simp [hc]))
section
variable {P : Program} {w : World} {A : Around} {E : Value → Shared → Prop} {s : Shared} {a : Addr} {L : List (Addr × List Int)} {es : Array (Int × Value)} {ep : Nat} {t : SetTable}
/-- how the rows of a set lie -/
structure RowsAt (h : Heap) (LD : List (D × Addr)) : Prop where
  row : ∀ q ∈ LD, ∃ k, rowD q.1 = some k ∧ k ≠ []
  shp : ∀ q ∈ LD, ∀ r ∈ LD, shpD q.1 = shpD r.1
  reads : ∀ q ∈ LD, ∀ h' : Heap, (∀ b o, h.get? b = some o → h'.get? b = some o) → Reads h' (.ref q.2) (pyR q.1) []
theorem sortSetN (R : SetN P w s.heap a L es ep t) (hh : A.handled = none) (hu : A.units + 64 < cLine) {LD : List (D × Addr)} (hL : L = LD.map fun q => (q.2, keyR q.1)) (ok : RowsAt s.heap LD) {Q : Value → Shared → Prop}
    (q : ∀ s' p (out : Array Value) (c : Nat) (M : List (D × Addr)), (∀ b o, s.heap.get? b = some o → s'.heap.get? b = some o) → s'.gens = s.gens → s'.os = s.os → s.heap.objs.size ≤ p → s'.heap.get? p = some (seqObj "list" out c) →
      out.toList = M.map (fun z => Value.ref z.2) → M.Perm LD → upR (M.map (·.1)) → Q (.ref p) s') : wpAny (model P w) A (call (.builtin "sorted") [.ref a]) Q E s := by
  obtain ⟨o, g1, g2, g3⟩ := R.at_
  have sz := entsLen R.ents
  have few := R.few
  refine Calls.call_function_entry kind_sorted plain_sorted entry_sorted (args_sorted1 _) ?_
  unfold Builtin.«sorted»
  refine wpAny_bind (m := checkCount "sorted" 1 1 _) (wpAny_pure ?_)
  refine wpAny_bind (collect_set (A := A.in1) hh ⟨o, g1, g2.1, g3⟩ R.fits (by unfold scanBound; omega) R.tab.ris R.led fun s1 vs k1 z1 e1 e2 pm => ?_)
  have hv : es.toList.map (·.2) = LD.map fun z => Value.ref z.2 := by
    rw [R.ents, hL]
    simp [rowN]
  rw [hv] at pm
  obtain ⟨M0, pm0, rfl⟩ := perm_map_ex pm LD rfl
  have lM : M0.length = L.length := by rw [pm0.length_eq, hL, List.length_map]
  refine wpAny_bind (wpAny_newList ?_ (by simp only [List.size_toArray, List.length_map]; rw [sizeLine_eq]; omega))
  have inLD : ∀ z ∈ M0, z ∈ LD := fun z hz => pm0.mem_iff.mp hz
  have gL : (s1.heap.push (seqObj "list" (M0.map fun z => Value.ref z.2).toArray 0)).get? s1.heap.objs.size = some (seqObj "list" (M0.map fun z => Value.ref z.2).toArray 0) := Heap.get?_push_size _ rfl
  have kp : ∀ b o, s.heap.get? b = some o → (s1.heap.push (seqObj "list" (M0.map fun z => Value.ref z.2).toArray 0)).get? b = some o := fun b o e => Heap.get?_push_of_some _ (k1 b o e)
  refine wpAny_bind (wpAny_holding (list_sort_data (A := A.in1) (s := { s1 with heap := s1.heap.push (seqObj "list" (M0.map fun z => Value.ref z.2).toArray 0) }) (R := fun v z => v = Value.ref z.2) (bs := M0) (enc := fun z => pyR z.1) gL (eachIs_map fun _ _ => rfl)
    (eachIs_map fun z hz => ⟨[], ok.reads z (inLD z hz) _ kp, by simp⟩) (fun d hd d' hd' => ?_) (.inl fun d hd => ?_) (by rw [sizeLine_eq]; omega) (fun b hb => ?_) fun out lo eo => ?_))
  · obtain ⟨z, hz, rfl⟩ := List.mem_map.mp hd
    obtain ⟨z', hz', rfl⟩ := List.mem_map.mp hd'
    obtain ⟨k, ek, _⟩ := ok.row z (inLD z hz)
    obtain ⟨k', ek', _⟩ := ok.row z' (inLD z' hz')
    exact alikeR ek ek' (ok.shp _ (inLD z hz) _ (inLD z' hz'))
  · obtain ⟨z, hz, rfl⟩ := List.mem_map.mp hd
    obtain ⟨k, ek, hk⟩ := ok.row z (inLD z hz)
    cases hz1 : z.1 with
    | tup ds =>
      rw [hz1] at ek
      cases ds with
      | nil => simp [rowD, numsD] at ek; exact absurd ek.symm (by simpa using hk)
      | cons d ds => exact ⟨_, _, rfl⟩
    | _ => rw [hz1] at ek; cases ek
  · have := depthR b.1
    show A.units + 1 + 1 + _ < cLine
    omega
  · have eM := eachIs_eq eo
    have pmM := List.mergeSort_perm M0 (dataLe false fun z => pyR z.1)
    have srt := sort_pairwise (sortLe_total (listOrd PyProof.Rows.itemOrd) false fun z : D × Addr => keyToks (pyR z.1)) M0
    have up : upR ((M0.mergeSort (dataLe false fun z => pyR z.1)).map (·.1)) := by
      have nd : (M0.map fun z => keyR z.1).Nodup := by
        have e3 : (LD.map fun z => keyR z.1) = L.map (·.2) := by rw [hL]; simp
        exact (pm0.map fun z => keyR z.1).nodup_iff.mpr (by rw [e3]; exact R.nodup)
      have nd2 := (pmM.map fun z => keyR z.1).nodup_iff.mpr nd
      have nd3 : (M0.mergeSort (dataLe false fun z => pyR z.1)).Pairwise fun z z' => keyR z.1 ≠ keyR z'.1 := List.pairwise_map.mp nd2
      rw [upR, List.pairwise_map]
      refine List.Pairwise.imp_of_mem ?_ (List.Pairwise.and srt nd3)
      rintro z z' hz hz' ⟨h1, h2⟩
      obtain ⟨k, ek, _⟩ := ok.row z (inLD z (pmM.mem_iff.mp hz))
      obtain ⟨k', ek', _⟩ := ok.row z' (inLD z' (pmM.mem_iff.mp hz'))
      have h3 : dataLe false (fun z : D × Addr => pyR z.1) z z' = true := h1
      rw [dataLe_eq] at h3
      simp only [cond_false, ltPy ek' ek] at h3
      rw [rowD_key ek, rowD_key ek'] at h2 ⊢
      rcases ltR_tri k k' with y | y | y
      · exact y
      · exact absurd y h2
      · rw [y] at h3; simp at h3
    obtain ⟨c, gc1⟩ := sortedHeap_at (vs := M0.map fun z => Value.ref z.2) (out := out.toArray) gL
    refine wpAny_pure ⟨_, rfl, q _ s1.heap.objs.size out.toArray c (M0.mergeSort (dataLe false fun z => pyR z.1)) (fun b u e => ?_) e1 e2 z1 gc1 (by rw [eM]) (pmM.trans pm0) up⟩
    have e4 := k1 b u e
    have lt := Heap.lt_size e4
    show (sortedHeap (s1.heap.push (seqObj "list" (M0.map fun z => Value.ref z.2).toArray 0)) s1.heap.objs.size (M0.map fun z => Value.ref z.2) out.toArray).get? b = some u
    rw [sortedHeap_old (Nat.ne_of_lt lt) (by rw [size_push']; exact Nat.lt_succ_of_lt lt)]
    exact Heap.get?_push_of_some _ e4
end
/-! ### the steps of the language -/
/-- what a set has of these items, in order -/
def setOf (g : GH) (d : D) : Option (List D) := match seqV g d with
  | some ds => if ds.length < 64 then match intsOf ds with
    | some is => some ((canon is).map .int)
    | none => if okRows ds && ds.all (fun d => decide (rowD d ≠ some [])) then some (canonR ds) else none
    else none
  | none => none
def eSortSet (a : EV) : EV := fun ρ g => (a ρ g).bind fun d g1 => match setOf g1 d with
  | some es => .ok (.rol es) g1
  | none => .bad
def eLenSet (a : EV) : EV := fun ρ g => (a ρ g).bind fun d g1 => match setOf g1 d with
  | some es => .ok (.int es.length) g1
  | none => .bad
theorem readsN {h : Heap} {K : KW} {m : List Addr} {H : Hp} : ∀ {ds : List D} {xs : List V} {us : List Value} {k : List Int}, DReps K m H ds xs → Vals xs us → numsD ds = some k → ReadsAll h us (ds.map pyN) []
  | [], xs, us, k, r, v, e => by
    rw [DReps] at r; subst r
    cases v
    exact .nil
  | d :: ds, xs, us, k, r, v, e => by
    rw [DReps] at r
    obtain ⟨x, ys, rfl, r1, r2⟩ := r
    simp only [numsD, Option.bind_eq_some_iff, Option.map_eq_some_iff] at e
    obtain ⟨i, e1, is, e2, rfl⟩ := e
    cases v with
    | @cons _ u0 _ _ v1 v2 =>
      have rest := readsN (h := h) r2 v2 e2
      have one : Reads h u0 (pyN d) [] := by
        cases d <;> simp [numD] at e1
        · rename_i b
          simp [DRep] at r1; subst r1
          cases v1
          exact .bool b
        · simp [DRep] at r1; subst r1
          obtain ⟨t, rfl⟩ := v1
          exact .int _ t
      exact ReadsAll.cons one rest
section
variable {X : Cx} {pins : List (Addr × Obj)} {σ : L2.St} {H : Hp} {s : Shared} {m : List Addr} {T : List (Addr × Str)} {g : GH}
/-- the rows of a list, at a state -/
theorem rows_at (I : Inv X pins σ H s) : ∀ {ds : List D} {xs : List V} {us : List Value}, DReps X.kw m H ds xs → Vals xs us → (∀ d ∈ ds, ∃ k, rowD d = some k) → ∃ LD : List (D × Addr), ds = LD.map (·.1) ∧ us = LD.map (fun z => Value.ref z.2) ∧
    (∀ z ∈ LD, IsN s.heap (keyR z.1) z.2) ∧ ∀ z ∈ LD, ∀ h' : Heap, (∀ b o, s.heap.get? b = some o → h'.get? b = some o) → Reads h' (.ref z.2) (pyR z.1) []
  | [], xs, us, r, v, e => by
    rw [DReps] at r; subst r
    cases v
    exact ⟨[], rfl, rfl, fun z hz => (by cases hz), fun z hz => (by cases hz)⟩
  | d :: ds, xs, us, r, v, e => by
    rw [DReps] at r
    obtain ⟨x, ys, rfl, r1, r2⟩ := r
    cases v with
    | cons v1 v2 =>
      obtain ⟨LD, e1, e2, h1, h2⟩ := rows_at I r2 v2 fun d hd => e d (by simp [hd])
      obtain ⟨k, ek⟩ := e d (by simp)
      have nis := nk_is I d x (nkT k) _ r1 (rowD_nk ek) v1
      cases d with
      | tup es =>
        have r1' := r1
        rw [DRep] at r1'
        obtain ⟨b, zs, rfl, q1, q2⟩ := r1'
        cases (show _ = Value.ref b from v1)
        refine ⟨(.tup es, b) :: LD, by simp [e1], by simp [e2], fun z hz => ?_, fun z hz h' kp => ?_⟩
        · rcases List.mem_cons.mp hz with y | y
          · subst y
            show IsN s.heap (keyR (.tup es)) b
            rw [rowD_key ek]
            exact nis
          · exact h1 z y
        · rcases List.mem_cons.mp hz with y | y
          · subst y
            obtain ⟨its, rv, ⟨o, ho, hc, n, hd⟩, _⟩ := I.tuple q1
            exact Reads.tuple (kp b o ho) hc hd (by simpa using readsN q2 rv (show numsD es = some k from ek))
          · exact h2 z y h' kp
      | _ => cases ek
/-- what the set's rows are, back among the things -/
theorem pick_rows {LD : List (D × Addr)} : ∀ {L : List (Addr × List Int)}, (∀ p ∈ L, p ∈ LD.map fun z => (z.2, keyR z.1)) → ∃ M : List (D × Addr), L = M.map (fun z => (z.2, keyR z.1)) ∧ ∀ z ∈ M, z ∈ LD
  | [], _ => ⟨[], rfl, fun z hz => (by cases hz)⟩
  | p :: L, h => by
    obtain ⟨z, hz, e⟩ := List.mem_map.mp (h p (by simp))
    obtain ⟨M, e1, h1⟩ := pick_rows (LD := LD) (L := L) fun q hq => h q (by simp [hq])
    refine ⟨z :: M, by simp [e, e1], fun y hy => ?_⟩
    rcases List.mem_cons.mp hy with x | x
    · rw [x]; exact hz
    · exact h1 y x
theorem all_rows {ds : List D} (h : (okRows ds && ds.all (fun d => decide (rowD d ≠ some []))) = true) : (∀ d ∈ ds, ∃ k, rowD d = some k ∧ k ≠ []) ∧ ∀ d ∈ ds, ∀ e ∈ ds, shpD d = shpD e := by
  simp only [Bool.and_eq_true, okRows, List.all_eq_true, decide_eq_true_eq] at h
  obtain ⟨h1, h2⟩ := h
  refine ⟨fun d hd => ?_, fun d hd e he => (h1 d hd).2.trans (h1 e he).2.symm⟩
  obtain ⟨k, ek⟩ := Option.isSome_iff_exists.mp (h1 d hd).1
  exact ⟨k, ek, fun z => h2 d hd (by rw [ek, z])⟩
/-- the things of a set, in order, are the canonical ones -/
theorem rows_canon {ds : List D} (ok : ∀ d ∈ ds, ∃ k, rowD d = some k ∧ k ≠ []) (shp : ∀ d ∈ ds, ∀ e ∈ ds, shpD d = shpD e) {es : List D} (up : upR es) (sub : ∀ d ∈ es, d ∈ ds) (all : ∀ d ∈ ds, ∃ e ∈ es, keyR e = keyR d) : es = canonR ds := by
  have one : ∀ d ∈ ds, ∀ e ∈ ds, keyR d = keyR e → d = e := fun d hd e he z => by
    obtain ⟨k, ek, _⟩ := ok d hd
    obtain ⟨k', ek', _⟩ := ok e he
    rw [rowD_key ek, rowD_key ek'] at z
    subst z
    exact rows_one ek ek' (shp d hd e he)
  refine upR_one es (canonR ds) up (canonR_up ds) fun x => ⟨fun hx => ?_, fun hx => ?_⟩
  · obtain ⟨y, hy, ey⟩ := canonR_has ds x (sub x hx)
    rw [← one y (canonR_sub y ds hy) x (sub x hx) ey]
    exact hy
  · obtain ⟨y, hy, ey⟩ := all x (canonR_sub x ds hx)
    rw [← one y (sub y hy) x (canonR_sub x ds hx) ey]
    exact hy
end
section
variable {X : Cx} {Z : Row} {W : WX} {pos : Pos} {a : Expr} {ea : EV}
/-- set(xs), and behind it whatever is asked of the set: n of its members in order are es -/
theorem set_then {K : KW} {T : List (Addr × Str)} {m : List Addr} {g : GH} {pins : List (Addr × Obj)} {σ : L2.St} {H : Hp} {s : Shared} {d : D} {v : V} {u : Value} {es : List D} {R : Value → Shared → Prop} (hK : K = X.kw) (hcalm : X.calm = true) (hu : X.A.units + 65 < cLine)
    (I : Inv X pins σ H s) (st : S K T m g H) (r : DRep K m H d v) (rv : RelV v u) (e : setOf g d = some es)
    (kI : ∀ (h' : Heap) (tk : Nat) (is : List Int), Inv X pins σ H { s with heap := h', toks := tk } → es = (canon is).map .int → is.length < 64 → SetR X.w h' s.heap.objs.size (fun j => decide (j ∈ is)) (canon is).length → R (.ref s.heap.objs.size) { s with heap := h', toks := tk })
    (kN : ∀ (h' : Heap) (tk : Nat) (LD M : List (D × Addr)) L ses ep t, Inv X pins σ H { s with heap := h', toks := tk } → (∀ z ∈ M, z ∈ LD) → (∀ z ∈ LD, ∃ y ∈ M, keyR y.1 = keyR z.1) → es = canonR (LD.map (·.1)) → (∀ d ∈ LD.map (·.1), ∃ k, rowD d = some k ∧ k ≠ []) → (∀ d ∈ LD.map (·.1), ∀ e ∈ LD.map (·.1), shpD d = shpD e) →
      L = M.map (fun z => (z.2, keyR z.1)) → SetN X.prog X.w h' s.heap.objs.size L ses ep t → RowsAt h' M → (∃ vs, DReps K m H (LD.map (·.1)) vs ∧ Vals vs (LD.map fun z => Value.ref z.2)) → R (.ref s.heap.objs.size) { s with heap := h', toks := tk }) :
    wpAny (model X.prog X.w) X.A (call (.type "set") [u]) R X.xe s := by
  subst hK
  unfold setOf at e
  split at e
  · rename_i ds e1
    split at e
    · rename_i hlen
      obtain ⟨p, xs, rfl, h1, h2⟩ := seqV_at st r e1
      cases (show u = Value.ref p from rv)
      obtain ⟨tup, its, rvs, hl⟩ : ∃ (tup : Bool) (its : List Value), Vals xs its ∧ (if tup then s.heap.IsTuple p its.toArray else s.heap.IsList p its.toArray) := by
        rcases h1 with h1 | h1
        · obtain ⟨its, rv, pl, _⟩ := I.list h1
          exact ⟨false, its, rv, pl.isList⟩
        · obtain ⟨its, rv, pl, _⟩ := I.tuple h1
          exact ⟨true, its, rv, pl⟩
      split at e
      · rename_i is e2
        cases e
        have hx := ints_reps h2 e2
        subst hx
        have lis : is.length < 64 := by
          have := h2.length
          simp at this
          omega
        refine setOfI tup is (I.ok.hd hcalm) hl (by simpa using intsAre_of rvs) (by unfold scanBound; omega) fun h' tk c R0 lc old => ?_
        have hcc := setR_count R0
        subst hcc
        exact kI h' tk is (I.kept old) rfl lis R0
      · split at e
        · rename_i hok
          cases e
          obtain ⟨ok, shp⟩ := all_rows hok
          obtain ⟨LD, e3, e4, h3, h4⟩ := rows_at I h2 rvs fun d hd => let ⟨k, ek, _⟩ := ok d hd; ⟨k, ek⟩
          subst e3
          have lLD : LD.length < 64 := by simpa using hlen
          refine setOfN tup (LD.map fun z => (z.2, keyR z.1)) (I.ok.hd hcalm) hl (by simp [e4]) (fun q hq => ?_) (by simpa using lLD) (by omega) fun h' tk L ses ep t R0 had old => ?_
          · obtain ⟨z, hz, rfl⟩ := List.mem_map.mp hq
            exact h3 z hz
          · obtain ⟨M, e5, h5⟩ := pick_rows (LD := LD) (L := L) fun q hq => by
              have := had.from_ q hq
              rwa [List.take_length] at this
            have inM : ∀ z ∈ M, z.1 ∈ LD.map (·.1) := fun z hz => List.mem_map.mpr ⟨z, h5 z hz, rfl⟩
            refine kN h' tk LD M L ses ep t (I.kept old) h5 (fun z hz => ?_) rfl ok shp e5 R0 ⟨fun z hz => ok z.1 (inM z hz), fun z hz y hy => shp _ (inM z hz) _ (inM y hy), fun z hz h2 k2 => h4 z (h5 z hz) h2 fun b o e => k2 b o (old b o e)⟩ ⟨xs, h2, by rw [← e4]; exact rvs⟩
            have := had.has (z.2, keyR z.1) (by rw [List.take_length]; exact List.mem_map.mpr ⟨z, hz, rfl⟩)
            rw [e5, List.map_map] at this
            obtain ⟨y, hy, ey⟩ := List.mem_map.mp this
            exact ⟨y, hy, ey⟩
        · cases e
    · cases e
  · cases e
theorem relV_ref {v : V} {a : Addr} (h : RelV v (.ref a)) : v = .ref a := by
  cases v with
  | ref b => exact congrArg V.ref (Value.ref.inj (show Value.ref a = Value.ref b from h)).symm
  | non => exact nomatch (show Value.ref a = Value.none from h)
  | bl b => exact nomatch (show Value.ref a = Value.bool b from h)
  | int i => obtain ⟨t, h⟩ := (show ∃ t, Value.ref a = Value.int i t from h); exact nomatch h
  | str i => obtain ⟨t, h⟩ := (show ∃ t, Value.ref a = Value.str i t from h); exact nomatch h
  | _ => first | (obtain ⟨t, h⟩ := h; exact nomatch h) | exact nomatch h
theorem each_rep {K : KW} {m : List Addr} {H : Hp} : ∀ {LD : List (D × Addr)} {vs : List V}, DReps K m H (LD.map (·.1)) vs → Vals vs (LD.map fun z => Value.ref z.2) → ∀ z ∈ LD, DRep K m H z.1 (.ref z.2)
  | [], _, _, _, z, hz => by cases hz
  | y :: LD, vs, r, v, z, hz => by
    rw [List.map_cons, DReps] at r
    obtain ⟨x, xs, rfl, r1, r2⟩ := r
    cases v with
    | cons v1 v2 =>
      rcases List.mem_cons.mp hz with e | e
      · rw [e]
        rw [relV_ref v1] at r1
        exact r1
      · exact each_rep r2 v2 z e
theorem reps_of {K : KW} {m : List Addr} {H : Hp} : ∀ {M : List (D × Addr)}, (∀ z ∈ M, DRep K m H z.1 (.ref z.2)) → DReps K m H (M.map (·.1)) (M.map fun z => V.ref z.2)
  | [], _ => by show DReps _ _ _ [] []; rw [DReps]
  | z :: M, h => by
    show DReps _ _ _ (z.1 :: M.map (·.1)) (V.ref z.2 :: M.map fun z => V.ref z.2)
    rw [DReps]
    exact ⟨_, _, rfl, h z (by simp), reps_of fun y hy => h y (by simp [hy])⟩
theorem vals_refs2 : ∀ M : List (D × Addr), Vals (M.map fun z => V.ref z.2) (M.map fun z => Value.ref z.2)
  | [] => .nil
  | z :: M => .cons rfl (vals_refs2 M)
/-- a list that was made aside -/
theorem inv_made {pins : List (Addr × Obj)} {σ : L2.St} {H : Hp} {s s' : Shared} {p : Addr} {xs : List V} {out : Array Value} {c : Nat} {Q : VK} (I : Inv X pins σ H s) (k : ∀ b o, s.heap.get? b = some o → s'.heap.get? b = some o) (g : s'.gens = s.gens) (o : s'.os = s.os) (hp : s.heap.objs.size ≤ p)
    (hg : s'.heap.get? p = some (seqObj "list" out c)) (hv : Vals xs out.toList) (hl : xs.length ≤ sizeLine) (q : Q (.ref p) (upd H p (.lst xs))) : EP X pins σ Q (.ref p) s' := by
  have hn : H p = none := I.hok.fresh hp
  have J : Inv X pins σ (upd H p (.lst xs)) { s with heap := s'.heap, gens := s'.gens, drawn := s'.drawn, toks := s'.toks } :=
    I.call (ch := []) (Un.laid k hp hn) (I.hok.laid k hp ⟨hl, out.toList, c, hv, hg⟩) (by rw [g]; exact I.bare) (fun _ z => nomatch z)
  have e : s' = { s with heap := s'.heap, gens := s'.gens, drawn := s'.drawn, toks := s'.toks } := by
    cases s'
    cases s
    cases o
    rfl
  rw [e]
  exact ⟨.ref p, _, J, rfl, q⟩
theorem canonI_len (is : List Int) (h : is.length < 64) : (canon is).length < 64 := by
  have : ∀ is : List Int, (canon is).length ≤ is.length := fun is => by
    induction is with
    | nil => exact Nat.le_refl _
    | cons i is ih =>
      have ins : ∀ (js : List Int), (insI i js).length ≤ js.length + 1 := fun js => by
        induction js with
        | nil => simp [insI]
        | cons j js ih2 =>
          unfold insI
          split
          · simp
          · split
            · simp
            · simp; omega
      have := ins (canon is)
      show (insI i (canon is)).length ≤ is.length + 1
      omega
  have := this is
  omega
theorem pe3_sortSet {p p2 q : Pos} (hK : Z.K = X.kw) (hc : X.calm = true) (hu : X.A.units + 65 < cLine) (hg : Gl X "sorted") (hm : X.mg "sorted" = none) (hg2 : Gl X "set") (hm2 : X.mg "set" = none) (ha : PE X a (tE Z ea W))
    (na : starEach [a] X.env = (false, eval a X.env) :: starEach [] X.env := by rfl) (nb : starEach [.Call (.Name "set" p2) [a] [] q] X.env = (false, eval (.Call (.Name "set" p2) [a] [] q) X.env) :: starEach [] X.env := by rfl) :
    PE X (.Call (.Name "sorted" p) [.Call (.Name "set" p2) [a] [] q] [] pos) (tE Z (eSortSet ea) W) := by
  obtain ⟨K, T, ec⟩ := Z
  obtain rfl : K = X.kw := hK
  refine ⟨fun pins s σ H Q I ⟨m, g, ρ, st, rr, h⟩ => ?_⟩
  refine Call_ (ld_blt I hg hm bt_sorted ?_)
  refine PyProof.Rows.callWith_builtin1 (PyProof.Rows.args_cons ?_ nb) nb rfl
  refine Call_ (ld_blt I hg2 hm2 PyProof.Rows.boot_set ?_)
  refine PyProof.Rows.callWith_type1 (PyProof.Rows.args_cons (thn (ha.run pins s σ H _ I ⟨m, g, ρ, st, rr, Post.bind h fun m1 H1 d v g1 e1 s1 r1 h1 => (⟨m1, g1, d, s1, r1, h1⟩ : ∃ m1 g1 d, S X.kw T m1 g1 H1 ∧ DRep X.kw m1 H1 d v ∧ Post X.kw T (RD ⟨X.kw, T, ec⟩) (match setOf g1 d with | some es => .ok (.rol es) g1 | none => .bad) m1 H1 Q (WofX ⟨X.kw, T, ec⟩ W σ))⟩) fun u s1 ⟨v, H1, I1, rv, m1, g1, d, st1, r1, h1⟩ => PyProof.Rows.args_nil ?_) na) na rfl
  split at h1
  · rename_i es e0
    refine set_then rfl hc hu I1 st1 r1 rv e0 (fun h' tk is I2 ees lis R0 => ?_) fun h' tk LD M L ses ep t I2 sub all ees ok shp eL R0 ra ⟨vs, rLD, vLD⟩ => ?_
    · refine PyProof.Rows.args_nil ?_
      refine sorted_set (s := { s1 with heap := h', toks := tk }) R0 (I2.ok.hd hc) (canonI_len is lis) fun s' p out c ns k g o hp hg hi hs hm hl => ?_
      have e2 : ns = canon is := rising_one ns (canon is) hs (pw_canon is) fun x => by
        rw [hm x, mem_canon]
        simp
      subst e2
      refine ep_lk (inv_made I2 k g o hp hg (vals_of_ints hi) (by rw [List.length_map, hl, sizeLine_eq]; have := canonI_len is lis; omega) ?_)
      rw [ees] at h1
      exact lk_new st1 (ints_map_reps _) (I2.hok.fresh hp) h1
    · refine PyProof.Rows.args_nil ?_
      refine sortSetN (s := { s1 with heap := h', toks := tk }) R0 (I2.ok.hd hc) (by omega) eL ra fun s' p out c M' k g o hp hg hout pm up => ?_
      have lM : M'.length < 64 := by
        have := R0.few
        rw [eL, List.length_map] at this
        rw [pm.length_eq]
        exact this
      have inLD : ∀ z ∈ M', z ∈ LD := fun z hz => sub z (pm.mem_iff.mp hz)
      have e3 : M'.map (·.1) = canonR (LD.map (·.1)) := rows_canon ok shp up (fun d hd => by
          obtain ⟨z, hz, rfl⟩ := List.mem_map.mp hd
          exact List.mem_map.mpr ⟨z, inLD z hz, rfl⟩) fun d hd => by
          obtain ⟨z, hz, rfl⟩ := List.mem_map.mp hd
          obtain ⟨y, hy, ey⟩ := all z hz
          exact ⟨y.1, List.mem_map.mpr ⟨y, pm.mem_iff.mpr hy, rfl⟩, ey⟩
      refine ep_lk (inv_made I2 k g o hp hg (xs := M'.map fun z => V.ref z.2) (by rw [hout]; exact vals_refs2 M') (by rw [List.length_map, sizeLine_eq]; omega) ?_)
      rw [ees, ← e3] at h1
      exact lk_new st1 (reps_of fun z hz => each_rep rLD vLD z (inLD z hz)) (I2.hok.fresh hp) h1
  · exact h1.elim
theorem pe3_lenSet {p p2 q : Pos} (hK : Z.K = X.kw) (hc : X.calm = true) (hu : X.A.units + 65 < cLine) (hg : Gl X "len") (hm : X.mg "len" = none) (hg2 : Gl X "set") (hm2 : X.mg "set" = none) (ha : PE X a (tE Z ea W))
    (na : starEach [a] X.env = (false, eval a X.env) :: starEach [] X.env := by rfl) (nb : starEach [.Call (.Name "set" p2) [a] [] q] X.env = (false, eval (.Call (.Name "set" p2) [a] [] q) X.env) :: starEach [] X.env := by rfl) :
    PE X (.Call (.Name "len" p) [.Call (.Name "set" p2) [a] [] q] [] pos) (tE Z (eLenSet ea) W) := by
  obtain ⟨K, T, ec⟩ := Z
  obtain rfl : K = X.kw := hK
  refine ⟨fun pins s σ H Q I ⟨m, g, ρ, st, rr, h⟩ => ?_⟩
  refine Call_ (ld_blt I hg hm bt_len ?_)
  refine PyProof.Rows.callWith_builtin1 (PyProof.Rows.args_cons ?_ nb) nb rfl
  refine Call_ (ld_blt I hg2 hm2 PyProof.Rows.boot_set ?_)
  refine PyProof.Rows.callWith_type1 (PyProof.Rows.args_cons (thn (ha.run pins s σ H _ I ⟨m, g, ρ, st, rr, Post.bind h fun m1 H1 d v g1 e1 s1 r1 h1 => (⟨m1, g1, d, s1, r1, h1⟩ : ∃ m1 g1 d, S X.kw T m1 g1 H1 ∧ DRep X.kw m1 H1 d v ∧ Post X.kw T (RD ⟨X.kw, T, ec⟩) (match setOf g1 d with | some es => .ok (.int es.length) g1 | none => .bad) m1 H1 Q (WofX ⟨X.kw, T, ec⟩ W σ))⟩) fun u s1 ⟨v, H1, I1, rv, m1, g1, d, st1, r1, h1⟩ => PyProof.Rows.args_nil ?_) na) na rfl
  split at h1
  · rename_i es e0
    refine set_then rfl hc hu I1 st1 r1 rv e0 (fun h' tk is I2 ees lis R0 => ?_) fun h' tk LD M L ses ep t I2 sub all ees ok shp eL R0 ra ⟨vs, rLD, vLD⟩ => ?_
    · refine PyProof.Rows.args_nil ?_
      obtain ⟨o, ses, ep, t, ho, hex, hd, _, _, _, _, hf, hn, _⟩ := R0
      have l64 := canonI_len is lis
      have e3 : es.length = ses.size := by rw [ees, List.length_map, hn]
      refine call_len_set (s := { s1 with heap := h', toks := tk }) ho hex hd hf (by omega) ⟨.int es.length, H1, I2.tok _, ⟨_, by rw [e3]⟩, h1.here st1 D.mk_int⟩
    · refine PyProof.Rows.args_nil ?_
      obtain ⟨o, g1', g2, g3⟩ := R0.at_
      have few := R0.few
      have sz := entsLen R0.ents
      have e3 : es.length = ses.size := by
        rw [sz, eL, List.length_map, ees]
        -- both lists have the same keys, each once
        have inLD : ∀ d ∈ M.map (·.1), d ∈ LD.map (·.1) := fun d hd => by
          obtain ⟨z, hz, rfl⟩ := List.mem_map.mp hd
          exact List.mem_map.mpr ⟨z, sub z hz, rfl⟩
        have nd : (M.map fun z => keyR z.1).Nodup := by
          have e4 : (M.map fun z => keyR z.1) = L.map (·.2) := by rw [eL]; simp
          rw [e4]
          exact R0.nodup
        have nd2 : ((canonR (LD.map (·.1))).map keyR).Nodup := by
          rw [List.Nodup, List.pairwise_map]
          refine List.Pairwise.imp (fun {d e} z y => ?_) (canonR_up (LD.map (·.1)))
          rw [y, ltR_irrefl] at z
          cases z
        have key : ∀ k : List Int, k ∈ (canonR (LD.map (·.1))).map keyR ↔ k ∈ M.map fun z => keyR z.1 := fun k => by
          constructor
          · intro hk
            obtain ⟨d, hd, rfl⟩ := List.mem_map.mp hk
            obtain ⟨z, hz, rfl⟩ := List.mem_map.mp (canonR_sub d _ hd)
            obtain ⟨y, hy, ey⟩ := all z hz
            exact List.mem_map.mpr ⟨y, hy, ey⟩
          · intro hk
            obtain ⟨z, hz, rfl⟩ := List.mem_map.mp hk
            obtain ⟨x, hx, ex⟩ := canonR_has (LD.map (·.1)) z.1 (inLD _ (List.mem_map.mpr ⟨z, hz, rfl⟩))
            exact List.mem_map.mpr ⟨x, hx, ex⟩
        have pm := (List.perm_ext_iff_of_nodup nd2 nd).mpr key
        have := pm.length_eq
        simpa using this
      refine call_len_set (s := { s1 with heap := h', toks := tk }) g1' g2 g3 (SetN.fits (s := { s1 with heap := h', toks := tk }) R0) (by rw [sz]; omega) ⟨.int es.length, H1, I2.tok _, ⟨_, by rw [e3]⟩, h1.here st1 D.mk_int⟩
  · exact h1.elim
end
end L3

/-! L3u: sorted(xs) of data, dicts walked, counts of keys, sets of ints, enumerate and zip. -/
namespace L3
open PySem PySem.Spec PyProof.Rows L2 PySem.W

/-! ### sorted -/
def insL {α : Type} (le : α → α → Bool) (d : α) : List α → List α
  | [] => [d]
  | e :: es => if le d e then d :: e :: es else e :: insL le d es
def sortL {α : Type} (le : α → α → Bool) (ds : List α) : List α := ds.foldr (insL le) []
section
variable {α β : Type} {le : α → α → Bool}
theorem insL_perm (d : α) : ∀ es, (insL le d es).Perm (d :: es)
  | [] => .refl _
  | e :: es => by
    unfold insL
    split
    · exact .refl _
    · exact ((insL_perm d es).cons e).trans (.swap d e es)
theorem sortL_perm : ∀ ds : List α, (sortL le ds).Perm ds
  | [] => .refl _
  | d :: ds => (insL_perm d _).trans ((sortL_perm ds).cons d)
theorem insL_up (h : TotalLe le) (d : α) : ∀ es, es.Pairwise (fun a b => le a b = true) → (insL le d es).Pairwise (fun a b => le a b = true)
  | [], _ => by simp [insL]
  | e :: es, p => by
    obtain ⟨p1, p2⟩ := List.pairwise_cons.mp p
    unfold insL
    split
    · rename_i c
      refine List.pairwise_cons.mpr ⟨fun x hx => ?_, p⟩
      rcases List.mem_cons.mp hx with z | z
      · rw [z]; exact c
      · exact h.trans d e x c (p1 x z)
    · rename_i c
      refine List.pairwise_cons.mpr ⟨fun x hx => ?_, insL_up h d es p2⟩
      rcases List.mem_cons.mp ((insL_perm d es).mem_iff.mp hx) with z | z
      · rw [z]
        exact (h.total d e).resolve_left c
      · exact p1 x z
theorem sortL_up (h : TotalLe le) : ∀ ds : List α, (sortL le ds).Pairwise (fun a b => le a b = true)
  | [] => .nil
  | d :: ds => insL_up h d _ (sortL_up h ds)
theorem insL_same (h : TotalLe le) (c d : α) : ∀ es, es.Pairwise (fun a b => le a b = true) → (insL le d es).filter (sameRank le c) = (d :: es).filter (sameRank le c)
  | [], _ => rfl
  | e :: es, p => by
    obtain ⟨p1, p2⟩ := List.pairwise_cons.mp p
    unfold insL
    split
    · rfl
    · rename_i q
      have ih := insL_same h c d es p2
      rw [List.filter_cons, ih]
      by_cases hd : sameRank le c d = true
      · have he : sameRank le c e = false := by
          cases z : sameRank le c e with
          | false => rfl
          | true =>
            simp only [sameRank, Bool.and_eq_true] at hd z
            exact absurd (h.trans d c e hd.2 z.1) q
        simp [he, hd]
      · simp [List.filter_cons, hd]
theorem sortL_same (h : TotalLe le) (c : α) : ∀ ds : List α, (sortL le ds).filter (sameRank le c) = ds.filter (sameRank le c)
  | [] => rfl
  | d :: ds => by
    show (insL le d (sortL le ds)).filter _ = _
    rw [insL_same h c d _ (sortL_up h ds), List.filter_cons, List.filter_cons, sortL_same h c ds]
theorem sortL_merge (h : TotalLe le) (ds : List α) : ds.mergeSort le = sortL le ds := (sort_unique h (sortL_up h ds) fun c => sortL_same h c ds).symm
theorem insL_map {le' : β → β → Bool} (f : α → β) (d : α) : ∀ es : List α, (∀ e ∈ es, le d e = le' (f d) (f e)) → (insL le d es).map f = insL le' (f d) (es.map f)
  | [], _ => rfl
  | e :: es, h => by
    simp only [insL, List.map_cons]
    rw [h e (by simp)]
    split
    · rfl
    · rw [List.map_cons, insL_map f d es fun x hx => h x (by simp [hx])]
theorem sortL_map {le' : β → β → Bool} (f : α → β) : ∀ ds : List α, (∀ d ∈ ds, ∀ e ∈ ds, le d e = le' (f d) (f e)) → (sortL le ds).map f = sortL le' (ds.map f)
  | [], _ => rfl
  | d :: ds, h => by
    show (insL le d (sortL le ds)).map f = insL le' (f d) (sortL le' (ds.map f))
    rw [insL_map f d _ fun e he => h d (by simp) e (by simp [(sortL_perm ds).mem_iff.mp he]), sortL_map f ds fun a ha b hb => h a (by simp [ha]) b (by simp [hb])]
end
/-- its data -/
def pyG (g : GH) (d : D) : PyData := (toPy g 16 d).getD .none
def leG (g : GH) (d e : D) : Bool := !PySem.W.dataLt (pyG g e) (pyG g d)
def sortable (ps : List PyData) : Bool := (ps.all fun p => match p with | .tuple (_ :: _) => true | _ => false) || ps.all fun p => match p with | .none => false | .tuple _ => false | _ => true
def okSort (g : GH) (ds : List D) : Bool := ds.all (fun d => (toPy g 16 d).isSome) && sortable (ds.map (pyG g)) && ds.all (fun d => ds.all fun e => PySem.W.alike (pyG g d) (pyG g e)) && decide (ds.length ≤ 1000000)
theorem sortable_ok {ps : List PyData} (h : sortable ps = true) : Sortable ps := by
  simp only [sortable, Bool.or_eq_true, List.all_eq_true] at h
  rcases h with h | h
  · refine .inl fun d hd => ?_
    have := h d hd
    split at this
    · exact ⟨_, _, rfl⟩
    · cases this
  · refine .inr fun d hd => ?_
    have := h d hd
    split at this
    · cases this
    · cases this
    · rename_i n1 n2
      exact ⟨fun z => n1 z, fun xs z => n2 xs z⟩
def fSortL : FN := fun xs g => match xs with
  | [d] => match seqV g d with
    | some ds => if okSort g ds then some (.rol (sortL (leG g) ds), g) else none
    | none => none
  | _ => none
/-- the items of a list or a tuple, copied -/
theorem collect_seq {P : Program} {w : World} {A : Around} {E : Value → Shared → Prop} {s : Shared} {l : Addr} {vs : List Value} {Q : List Value → Shared → Prop} (hl : s.heap.IsList l vs.toArray ∨ s.heap.IsTuple l vs.toArray)
    (h : Q vs { s with heap := (s.heap.push (seqObj "list" #[] 0)).update s.heap.objs.size (Obj.mapSeq (· ++ vs.toArray)) }) (hsz : vs.length ≤ sizeLine) : wpAny (model P w) A (collect (.ref l)) Q E s := by
  rcases hl with hl | hl
  · exact collect_list hl h hsz
  · obtain ⟨o, ho, hc, n, hd⟩ := id hl
    unfold collect
    refine wpAny_bind (wpAny_runValue (codeAny_builtin entry_proto_collect' ?_))
    show wpAny _ _ (do again (.builtin "list.__iadd__" ⟨[← newList [], .ref l], []⟩)) _ _ s
    refine wpAny_bind (wpAny_newList (wpAny_pure ⟨Code.quiet_builtin _ (by decide +kernel), codeAny_builtin entry_list_iadd' ?_⟩))
    show wpAny _ _ (Builtin.List.listExtendWith (.ref s.heap.objs.size) (.ref l) (.ref s.heap.objs.size)) _ _ { s with heap := s.heap.push (seqObj "list" #[] 0) }
    unfold Builtin.List.listExtendWith
    have g1 : (s.heap.push (seqObj "list" #[] 0)).get? l = some o := Heap.get?_push_of_some _ ho
    have gN := Heap.get?_push_size s.heap (o := seqObj "list" #[] 0) rfl
    refine wpAny_bind (wpAny_typeOf (T := "tuple") ⟨o, g1, hc⟩ ?_)
    have tt : (Value.type "tuple" == Value.type "tuple") = true := rfl
    rw [if_pos (by rw [tt]; simp)]
    refine wpAny_bind (listItems_at g1 hd ?_)
    refine wpAny_bind (listItems_at (xs := #[]) (n := 0) gN rfl ?_)
    rw [if_neg (by simp)]
    refine wpAny_bind (listUpdate_at (xs := #[]) (n := 0) gN rfl ?_ (Nat.zero_le _) (by simp only [Array.size_append, List.size_toArray]; show 0 + vs.length ≤ _; omega))
    refine wpAny_pure ?_
    show wpAny (model P w) A (do
        let o ← load s.heap.objs.size
        match o.data with
        | .seq xs _ => pure xs.toList
        | _ => unsupported "internal:collect") Q E { s with heap := (s.heap.push (seqObj "list" #[] 0)).update s.heap.objs.size (Obj.mapSeq (· ++ vs.toArray)) }
    refine wpAny_bind (wpAny_load (get?_update_seq gN _) ?_)
    show wpAny _ _ (pure ((#[] : Array Value) ++ vs.toArray).toList) Q E _
    rw [show ((#[] : Array Value) ++ vs.toArray).toList = vs by simp]
    exact wpAny_pure h
section
variable {X : Cx} {pins : List (Addr × Obj)} {σ : L2.St} {H : Hp} {s : Shared} {m : List Addr} {T : List (Addr × Str)} {g : GH}
theorem py_each (I : Inv X pins σ H s) (st : S X.kw T m g H) : ∀ {ds : List D} {xs : List V} {us : List Value}, DReps X.kw m H ds xs → Vals xs us → (∀ d ∈ ds, (toPy g 16 d).isSome = true) → ∃ LD : List (D × V × Value), ds = LD.map (·.1) ∧ xs = LD.map (·.2.1) ∧ us = LD.map (·.2.2) ∧
    ∀ z ∈ LD, DRep X.kw m H z.1 z.2.1 ∧ RelV z.2.1 z.2.2 ∧ ∃ as, Reads s.heap z.2.2 (pyG g z.1) as
  | [], xs, us, r, v, e => by
    rw [DReps] at r; subst r
    cases v
    exact ⟨[], rfl, rfl, rfl, fun z hz => (by cases hz)⟩
  | d :: ds, xs, us, r, v, e => by
    rw [DReps] at r
    obtain ⟨x, ys, rfl, r1, r2⟩ := r
    cases v with
    | @cons _ u0 _ _ v1 v2 =>
      obtain ⟨LD, e1, e2, e3, h1⟩ := py_each I st r2 v2 fun d hd => e d (by simp [hd])
      obtain ⟨p, ep⟩ := Option.isSome_iff_exists.mp (e d (by simp))
      obtain ⟨as, ra⟩ := Dp.reads I p x u0 (dp_of st 16 d x p r1 ep) v1
      refine ⟨(d, x, u0) :: LD, by simp [e1], by simp [e2], by simp [e3], fun z hz => ?_⟩
      rcases List.mem_cons.mp hz with y | y
      · subst y
        exact ⟨r1, v1, as, by show Reads _ _ ((toPy g 16 d).getD .none) _; rw [ep]; exact ra⟩
      · exact h1 z y
end
theorem reads_lt {h : Heap} : ∀ (d : PyData) (v : Value) (as : List Addr), PySem.W.alike d d = true → Reads h v d as → ∀ a ∈ as, a < h.objs.size
  | .none, v, as, _, r, a, ha => by cases r; cases ha
  | .bool b, v, as, _, r, a, ha => by cases r; cases ha
  | .int i, v, as, _, r, a, ha => by cases r; cases ha
  | .str x, v, as, _, r, a, ha => by cases r; cases ha
  | .list xs, v, as, al, r, a, ha => by
    cases r with
    | list h1 h2 h3 h4 =>
      rcases List.mem_cons.mp ha with e | ha
      · rw [e]; exact Heap.lt_size h1
      · exact reads_lts xs _ _ (by simpa [PySem.W.alike] using al) h4 a ha
  | .tuple xs, v, as, al, r, a, ha => by
    cases r with
    | tuple h1 h2 h3 h4 => exact reads_lts xs _ _ (by simpa [PySem.W.alike] using al) h4 a ha
  | .dict _, v, as, al, r, a, ha => by simp [PySem.W.alike] at al
where reads_lts {h : Heap} : ∀ (ds : List PyData) (vs : List Value) (as : List Addr), PySem.W.alikeAll ds ds = true → ReadsAll h vs ds as → ∀ a ∈ as, a < h.objs.size
  | [], vs, as, _, r, a, ha => by cases r; cases ha
  | d :: ds, vs, as, al, r, a, ha => by
    simp only [PySem.W.alikeAll, Bool.and_eq_true] at al
    cases r with
    | cons r1 r2 =>
      rcases List.mem_append.mp ha with z | z
      · exact reads_lt d _ _ al.1 r1 a z
      · exact reads_lts ds _ _ al.2 r2 a z
theorem each3_rep {K : KW} {m : List Addr} {H : Hp} : ∀ {M : List (D × V × Value)}, (∀ z ∈ M, DRep K m H z.1 z.2.1) → DReps K m H (M.map (·.1)) (M.map (·.2.1))
  | [], _ => by show DReps _ _ _ [] []; rw [DReps]
  | z :: M, h => by
    show DReps _ _ _ (z.1 :: M.map (·.1)) (z.2.1 :: M.map (·.2.1))
    rw [DReps]
    exact ⟨_, _, rfl, h z (by simp), each3_rep fun y hy => h y (by simp [hy])⟩
theorem each3_vals : ∀ {M : List (D × V × Value)}, (∀ z ∈ M, RelV z.2.1 z.2.2) → Vals (M.map (·.2.1)) (M.map (·.2.2))
  | [], _ => .nil
  | z :: M, h => .cons (h z (by simp)) (each3_vals fun y hy => h y (by simp [hy]))
theorem leG_total (g : GH) : TotalLe (leG g) := by
  have h := sortLe_total (listOrd PyProof.Rows.itemOrd) false fun d : D => keyToks (pyG g d)
  exact h
section
variable {X : Cx} {Z : Row}
theorem c_sortL (hK : Z.K = X.kw) (hu : X.A.units + 65 < cLine) : CallR X (.builtin "sorted") (rN Z fSortL) := by
  obtain ⟨K, T, ec⟩ := Z
  obtain rfl : K = X.kw := hK
  intro pins st σ H xs us Q I rx ⟨m, g, ds, s, hd, h⟩
  unfold fSortL at h
  split at h
  · rename_i d
    obtain ⟨v, rfl, h1⟩ := reps1 hd
    split at h
    · rename_i items e0
      split at h
      · rename_i hok
        simp only [okSort, Bool.and_eq_true, decide_eq_true_eq] at hok
        obtain ⟨⟨⟨ok1, ok2⟩, ok3⟩, ok4⟩ := hok
        obtain ⟨p, ys, rfl, hq, hr⟩ := seqV_at s h1 e0
        obtain ⟨its, rv, hl⟩ : ∃ its : List Value, Vals ys its ∧ (st.heap.IsList p its.toArray ∨ st.heap.IsTuple p its.toArray) := by
          rcases hq with hq | hq
          · obtain ⟨its, rv, pl, _⟩ := I.list hq
            exact ⟨its, rv, .inl pl.isList⟩
          · obtain ⟨its, rv, pl, _⟩ := I.tuple hq
            exact ⟨its, rv, .inr pl⟩
        rw [Vals.ref1 rx]
        obtain ⟨LD, e1, e2, e3, each⟩ := py_each I s hr rv (by simpa using ok1)
        subst e1 e2 e3
        have lLD : LD.length ≤ 1000000 := by simpa using ok4
        refine Calls.call_function_entry kind_sorted plain_sorted entry_sorted (args_sorted1 _) ?_
        unfold Builtin.«sorted»
        refine wpAny_bind (m := checkCount "sorted" 1 1 _) (wpAny_pure ?_)
        refine wpAny_bind (collect_seq (A := X.A.in1) hl ?_ (by rw [List.length_map, sizeLine_eq]; omega))
        refine wpAny_bind (wpAny_newList ?_ (by rw [List.length_map, sizeLine_eq]; omega))
        generalize hh : (st.heap.push (seqObj "list" #[] 0)).update st.heap.objs.size (Obj.mapSeq (· ++ (LD.map (·.2.2)).toArray)) = h1'
        have k1 : ∀ b o, st.heap.get? b = some o → h1'.get? b = some o := fun b o e => by
          subst hh
          rw [Heap.get?_update_ne _ _ _ _ (Ne.symm (Nat.ne_of_gt (Heap.lt_size e)))]
          exact Heap.get?_push_of_some _ e
        have z1 : st.heap.objs.size ≤ h1'.objs.size := by
          subst hh
          rw [Heap.size_update, size_push']
          exact Nat.le_succ _
        have gL : (h1'.push (seqObj "list" (LD.map (·.2.2)).toArray 0)).get? h1'.objs.size = some (seqObj "list" (LD.map (·.2.2)).toArray 0) := Heap.get?_push_size _ rfl
        have al : ∀ z ∈ LD, ∀ y ∈ LD, PySem.W.alike (pyG g z.1) (pyG g y.1) = true := fun z hz y hy => by
          simp only [List.all_eq_true] at ok3
          exact ok3 _ (List.mem_map.mpr ⟨z, hz, rfl⟩) _ (List.mem_map.mpr ⟨y, hy, rfl⟩)
        refine wpAny_bind (wpAny_holding (list_sort_data (A := X.A.in1) (s := { st with heap := h1'.push (seqObj "list" (LD.map (·.2.2)).toArray 0) }) (R := fun v z => v = z.2.2) (bs := LD) (enc := fun z => pyG g z.1) gL (eachIs_map fun _ _ => rfl)
          (eachIs_map fun z hz => ?_) (fun d hd d' hd' => ?_) ?_ (by rw [sizeLine_eq]; omega) (fun b hb => ?_) fun out lo eo => ?_))
        · obtain ⟨_, _, as, ra⟩ := each z hz
          refine ⟨as, PyProof.Rows.Reads.keeps (fun b o e => Heap.get?_push_of_some _ (k1 b o e)) ra, fun hin => ?_⟩
          exact absurd (reads_lt _ _ _ (al z hz z hz) ra _ hin) (Nat.not_lt.mpr z1)
        · obtain ⟨z, hz, rfl⟩ := List.mem_map.mp hd
          obtain ⟨y, hy, rfl⟩ := List.mem_map.mp hd'
          exact al z hz y hy
        · have := sortable_ok ok2
          rw [List.map_map] at this
          exact this
        · show X.A.units + 1 + 1 + _ < cLine
          have : ∃ p, toPy g 16 b.1 = some p := Option.isSome_iff_exists.mp (by simpa using (List.all_eq_true.mp ok1) _ (List.mem_map.mpr ⟨b, hb, rfl⟩))
          obtain ⟨p', ep'⟩ := this
          have := (shaped_to 16 b.1 p' ep').2
          have e9 : pyG g b.1 = p' := by unfold pyG; rw [ep']; rfl
          rw [e9]
          omega
        · have eM := eachIs_eq eo
          have eS : LD.mergeSort (dataLe false fun z => pyG g z.1) = sortL (dataLe false fun z : D × V × Value => pyG g z.1) LD := sortL_merge (sortLe_total (listOrd PyProof.Rows.itemOrd) false fun z : D × V × Value => keyToks (pyG g z.1)) LD
          rw [eS] at eM
          have pm := sortL_perm (le := dataLe false fun z : D × V × Value => pyG g z.1) LD
          have eD : (sortL (dataLe false fun z : D × V × Value => pyG g z.1) LD).map (·.1) = sortL (leG g) (LD.map (·.1)) := sortL_map (le := dataLe false fun z : D × V × Value => pyG g z.1) (le' := leG g) (·.1) LD fun z _ y _ => rfl
          generalize sortL (dataLe false fun z : D × V × Value => pyG g z.1) LD = M at eM pm eD
          obtain ⟨c, gc1⟩ := sortedHeap_at (vs := LD.map (·.2.2)) (out := out.toArray) gL
          rw [← eD] at h
          have inLD : ∀ z ∈ M, z ∈ LD := fun z hz => pm.mem_iff.mp hz
          refine wpAny_pure ⟨_, rfl, ?_⟩
          refine ep_lk (inv_made (s' := { st with heap := sortedHeap (h1'.push (seqObj "list" (LD.map (·.2.2)).toArray 0)) h1'.objs.size (LD.map (·.2.2)) out.toArray }) I (fun b u e => ?_) rfl rfl z1 gc1 (xs := M.map (·.2.1)) (by rw [List.toList_toArray, eM]; exact each3_vals fun z hz => (each z (inLD z hz)).2.1) (by rw [List.length_map, pm.length_eq, sizeLine_eq]; omega) ?_)
          · have e4 := k1 b u e
            have lt := Heap.lt_size e4
            show (sortedHeap (h1'.push (seqObj "list" (LD.map (·.2.2)).toArray 0)) h1'.objs.size (LD.map (·.2.2)) out.toArray).get? b = some u
            rw [sortedHeap_old (Nat.ne_of_lt lt) (by rw [size_push']; exact Nat.lt_succ_of_lt lt)]
            exact Heap.get?_push_of_some _ e4
          · exact lk_new s (each3_rep fun z hz => (each z (inLD z hz)).1) (I.hok.fresh z1) h
      · exact h.elim
    · exact h.elim
  · exact h.elim
end
end L3

/-! L3v: dicts walked, counts of keys, sets of ints, lengths. -/
namespace L3
open PySem PySem.Spec PyProof.Rows L2

/-! ### for k in d -/
def iDictK (a : EV) : IV := fun ρ g => (a ρ g).bind fun d g1 => match d with
  | .ref i => match g1[i]? with
    | some (.dct kvs) => .ok ⟨[], kvs.map (·.1)⟩ (g1.set i (.dcf kvs))
    | some (.dcf kvs) => .ok ⟨[], kvs.map (·.1)⟩ g1
    | _ => .bad
  | _ => .bad
section
variable {X : Cx} {pins : List (Addr × Obj)} {σ : L2.St} {H : Hp} {s : Shared} {d : Addr} {o : Obj}
theorem dcf_at {xs : List (NestedKey × Addr × Value)} (I : Inv X pins σ H s) (h : H d = some (.frz o (DicO X.prog X.w d xs))) : s.heap.get? d = some o ∧ o.ExactDict ∧ ∃ es ep, o.data = .dict es ep ∧ es.toList = xs.map (entryOfKey (nestedKind X.prog X.w)) := by
  obtain ⟨g1, ⟨o', es, ep, h1, h2, h3, h4, _⟩, _, _⟩ := (show ObjOk X.prog X.w H s.heap d (.frz o (DicO X.prog X.w d xs)) from I.hok d _ h)
  rw [g1] at h1
  cases h1
  exact ⟨g1, h2, es, ep, h3, h4⟩
def ItkD (P : Program) (w : World) (d : Addr) (o : Obj) (xs : List (NestedKey × Addr × Value)) : It :=
  ⟨fun i H => H d = some (.frz o (DicO P w d xs)) ∧ i < xs.length, fun i H x H' => H' = H ∧ ∃ k b v, xs[i]? = some (k, b, v) ∧ x = .ref b, fun i H => H d = some (.frz o (DicO P w d xs)) ∧ xs.length ≤ i⟩
theorem turn_keysN {P : Program} {w : World} {K : PySem.W.Frag} {tg : Expr} {es : Array DictEntry} {ep : Nat} {xs : List (NestedKey × Addr × Value)} (it : Addr) (hod : o.data = .dict es ep) : Turn P w K tg (ItkD P w d o xs) [it] it (fun i h => h.IsKeyIter it d i xs.length ep) where
  mem := by simp
  obj := fun i h st b hb => by
    have e : b = it := by simpa using hb
    rw [e]
    obtain ⟨u, g1, _, g3⟩ := st
    exact ⟨u, g1, fun v z => by rw [g3] at z; cases z⟩
  keep := fun i h h' st k => st.at fun u e => k it (by simp) u e
  item := by
    intro X hP hw hK hc i pins s σ H E I hf st ⟨hd, li⟩
    subst hP hw hK
    obtain ⟨f0, f1, f2, f3, f4, f5⟩ := hf it (by simp)
    obtain ⟨g1, g2, es', ep', g3, g4⟩ := dcf_at I hd
    obtain ⟨rfl, rfl⟩ := dict_ep hod g3
    have szl : es'.size = xs.length := by have := congrArg List.length g4; simpa using this
    have ent : es'[i]? = some (entryOfKey (nestedKind X.prog X.w) xs[i]) := by rw [← Array.getElem?_toList, g4, List.getElem?_map, List.getElem?_eq_getElem li]; rfl
    refine next_key_item st g1 g3 szl ent fun h' st' sb => ?_
    have I1 : Inv X pins σ H { s with heap := h' } := I.turned (t' := s.toks) (fun b ob hb e => (sb.2 b hb).trans e) f0 f1 f3 f4 f5
    obtain ⟨u, q1, q2, q3⟩ := id st'
    refine ⟨_, rfl, go_of (s := { s with heap := h' }) q1 q2 q3 (by decide) ⟨.ref xs[i].2.1, H, I1, rfl, ⟨rfl, xs[i].1, xs[i].2.1, xs[i].2.2, List.getElem?_eq_getElem li, rfl⟩, st', fun b hb => (hf b hb).1⟩⟩
  done := by
    intro X hP hw hK hc i pins s σ H E I hf st ⟨hd, li⟩
    subst hP hw hK
    obtain ⟨f0, f1, f2, f3, f4, f5⟩ := hf it (by simp)
    obtain ⟨g1, g2, es', ep', g3, g4⟩ := dcf_at I hd
    obtain ⟨rfl, rfl⟩ := dict_ep hod g3
    have szl : es'.size = xs.length := by have := congrArg List.length g4; simpa using this
    exact next_key_end (I.ok.hd hc) st g1 g3 szl li fun h' eb => ⟨rfl, I.turned (t' := s.toks) (fun b ob hb e => eb b ob hb e) f0 f1 f3 f4 f5⟩
  self := fun A i s Q E st h => by
    refine wpAny_pyIter_slot st.typeIs F.slot_dict_keyiterator_iter (wpAny_call_entry F.slot_dict_keyiterator_iter st.typeIs F.entry_dict_keyiterator_iter ?_ (F.args_dict_keyiterator_iter_1 _))
    show wpAny _ _ (ret (.ref it)) _ _ s
    exact wpAny_pure ⟨_, rfl, "dict_keyiterator", _, st.typeIs, F.slot_dict_keyiterator_next.lookup, h⟩
end
theorem pair_get {K : KW} {m : List Addr} {H : Hp} : ∀ {kvs : List (D × D)} {xs : List (NestedKey × Addr × Value)} {i : Nat} {key : NestedKey} {b : Addr} {v : Value}, PairD K m H kvs xs → xs[i]? = some (key, b, v) → ∃ k d, kvs[i]? = some (k, d) ∧ DRep K m H k (.ref b)
  | [], xs, i, _, _, _, h, e => by
    have : xs = [] := h
    subst this
    simp at e
  | (k, d) :: kvs, xs, i, key, b, v, ⟨key', b', v', vv, r, e1, h1, h2, h3, h4, h5, h6⟩, e => by
    subst e1
    cases i with
    | zero =>
      simp at e
      obtain ⟨rfl, rfl, rfl⟩ := e
      exact ⟨k, d, rfl, h3⟩
    | succ i =>
      obtain ⟨k', d', e2, h7⟩ := pair_get h6 (by simpa using e)
      exact ⟨k', d', by simpa using e2, h7⟩
theorem jrep_keys {K : KW} {T : List (Addr × Str)} {m0 : List Addr} {H0 : Hp} {a0 : Addr} {o : Obj} {kvs : List (D × D)} {xs : List (NestedKey × Addr × Value)} (h1 : H0 a0 = some (.frz o (DicO K.P K.w a0 xs))) (h2 : PairD K m0 H0 kvs xs) : JRep K T m0 H0 ⟨[], kvs.map (·.1)⟩ (ItkD K.P K.w a0 o xs) := by
  intro i m g H e s hd
  have h3 := e.frzs _ _ _ h1
  have h4 := PairD.mono0 (DRep.mono e) kvs xs h2
  have hl := pair_len h4
  refine ⟨fun hi => ⟨h3, by rw [hi, hl]; simp⟩, fun hi => ⟨⟨h3, by rw [hl]; simpa using hi⟩, fun x H' y => ?_⟩⟩
  obtain ⟨rfl, k, b, v, e1, rfl⟩ := y
  obtain ⟨k', d', e2, h5⟩ := pair_get h4 e1
  exact ⟨k', by simp [e2], .refl, s, h5⟩
section
variable {X : Cx} {Z : Row} {W : WX} {pos : Pos} {tg a b : Expr} {ea eb : EV} {es : List Expr} {as : AV}
theorem pi3_keys (hK : Z.K = X.kw) (ha : PE X a (tE Z ea W)) : PI X tg a (tI3 Z (iDictK ea) W) := by
  obtain ⟨K, T, ec⟩ := Z
  obtain rfl : K = X.kw := hK
  refine ⟨fun pins s σ H R I ⟨m, g, ρ, st, rr, h⟩ => ?_⟩
  have h' : Post X.kw T (fun m H => JRep X.kw T m H) ((ea ρ g).bind fun d g1 => match d with
    | .ref i => match g1[i]? with
      | some (.dct kvs) => .ok ⟨[], kvs.map (·.1)⟩ (g1.set i (.dcf kvs))
      | some (.dcf kvs) => .ok ⟨[], kvs.map (·.1)⟩ g1
      | _ => .bad
    | _ => .bad) m H R (WofX ⟨X.kw, T, ec⟩ W σ) := h
  refine thn (ha.run pins s σ H (fun v H1 => ∃ m1 g1 d, S X.kw T m1 g1 H1 ∧ DRep X.kw m1 H1 d v ∧ Post X.kw T (fun m H => JRep X.kw T m H) (match d with
    | .ref i => match g1[i]? with
      | some (.dct kvs) => .ok ⟨[], kvs.map (·.1)⟩ (g1.set i (.dcf kvs))
      | some (.dcf kvs) => .ok ⟨[], kvs.map (·.1)⟩ g1
      | _ => .bad
    | _ => .bad) m1 H1 R (WofX ⟨X.kw, T, ec⟩ W σ)) I ⟨m, g, ρ, st, rr, Post.bind (R := RD ⟨X.kw, T, ec⟩) h' fun m1 H1 d v g1 e1 s1 r1 h1 => ⟨m1, g1, d, s1, r1, h1⟩⟩) fun u s1 ⟨v, H1, I1, rv, m1, g1, d, st1, r1, h1⟩ => ?_
  split at h1
  · rename_i i
    rw [DRep] at r1
    obtain ⟨d0, rfl, r2⟩ := r1
    cases (show u = Value.ref d0 from rv)
    obtain ⟨go, eg, ro⟩ := st1.at r2
    split at h1
    · rename_i kvs e1
      rw [e1] at eg
      cases eg
      obtain ⟨xs, q1, q2, q3, q4, q5⟩ := ro
      have mw : Mine (DicO X.prog X.w d0 xs) := fun c q' => dicO_code X.prog X.w d0 q3 c q'
      obtain ⟨od, I2⟩ := I1.lock q1 (by unfold DicO; exact True.intro)
      have ex := st1.putE (u := .frz od (DicO X.prog X.w d0 xs)) r2 q1 mw
      have q6 := PairD.mono0 (DRep.mono ex) kvs xs q2
      obtain ⟨ex2, st2⟩ := st1.put (o := .dcf kvs) (u := .frz od (DicO X.prog X.w d0 xs)) r2 q1 mw ⟨xs, od, upd_same, q6, q3, q4, q5⟩
      obtain ⟨g1', g2, es, ep, g3, g4⟩ := dcf_at I2 upd_same
      refine iter_keys q4 g1' g2 g3 (pi_one (tk := s1.toks) I2 _ (turn_keysN _ g3) ⟨_, Heap.get?_push_size _ rfl, rfl, ?_⟩ (h1 m1 _ (ItkD X.prog X.w d0 od xs) ex2 st2 (jrep_keys upd_same q6)))
      have szl : es.size = xs.length := by have := congrArg List.length g4; simpa using this
      rw [szl]
      rfl
    · rename_i kvs e1
      rw [e1] at eg
      cases eg
      obtain ⟨xs, od, q1, q2, q3, q4, q5⟩ := ro
      obtain ⟨g1', g2, es, ep, g3, g4⟩ := dcf_at I1 q1
      refine iter_keys q4 g1' g2 g3 (pi_one (tk := s1.toks) I1 _ (turn_keysN _ g3) ⟨_, Heap.get?_push_size _ rfl, rfl, ?_⟩ (h1 m1 _ (ItkD X.prog X.w d0 od xs) .refl st1 (jrep_keys q1 q2)))
      have szl : es.size = xs.length := by have := congrArg List.length g4; simpa using this
      rw [szl]
      rfl
    · exact h1.elim
  · exact h1.elim
/-! ### dict([..]) whose keys are ints: how many there are -/
def keyI : D → Option Int
  | .tup [.int i, _] => some i
  | _ => none
def keysI : List D → Option (List Int)
  | [] => some []
  | d :: ds => (keyI d).bind fun i => (keysI ds).map fun is => i :: is
def fDictP : FN := fun xs g => match xs with
  | [d] => match lstV g d with
    | some ds => match keysI ds with
      | some is => some (.ref g.length, g ++ [.dkn (canon is).length])
      | none => none
    | none => none
  | _ => none
theorem putK_any (kvs : List (Key × V)) (k : Key) : (kvs.any fun kv => decide (kv.1 = k)) = true ↔ k ∈ kvs.map (·.1) := by
  simp only [List.any_eq_true, decide_eq_true_eq, List.mem_map]
theorem putK_old {kvs : List (Key × V)} {k : Key} {v : V} (h : k ∈ kvs.map (·.1)) : (putK kvs k v).map (·.1) = kvs.map (·.1) := by
  unfold putK
  rw [if_pos ((putK_any kvs k).mpr h), List.map_map]
  apply List.map_congr_left
  intro q _
  simp only [Function.comp_def]
  split <;> simp_all
theorem putK_fresh {kvs : List (Key × V)} {k : Key} {v : V} (h : ¬ k ∈ kvs.map (·.1)) : (putK kvs k v).map (·.1) = kvs.map (·.1) ++ [k] := by
  unfold putK
  rw [if_neg fun z => h ((putK_any kvs k).mp z)]
  simp
theorem mergeK_keys : ∀ (more kvs : List (Key × V)), (kvs.map (·.1)).Nodup → ((mergeK kvs more).map (·.1)).Nodup ∧ ∀ k, k ∈ (mergeK kvs more).map (·.1) ↔ k ∈ kvs.map (·.1) ∨ k ∈ more.map (·.1)
  | [], kvs, h => ⟨h, fun k => by simp [mergeK]⟩
  | p :: more, kvs, h => by
    have hn : ((putK kvs p.1 p.2).map (·.1)).Nodup := by
      by_cases q : p.1 ∈ kvs.map (·.1)
      · rw [putK_old q]; exact h
      · rw [putK_fresh q, List.nodup_append]
        exact ⟨h, by simp, fun x hx y hy => by simp only [List.mem_singleton] at hy; rw [hy]; rintro rfl; exact q hx⟩
    obtain ⟨h1, h2⟩ := mergeK_keys more (putK kvs p.1 p.2) hn
    refine ⟨h1, fun k => ?_⟩
    show k ∈ (mergeK (putK kvs p.1 p.2) more).map (·.1) ↔ _
    rw [h2]
    by_cases q : p.1 ∈ kvs.map (·.1)
    · rw [putK_old q, List.map_cons, List.mem_cons]
      constructor
      · rintro (z | z)
        · exact .inl z
        · exact .inr (.inr z)
      · rintro (z | z | z)
        · exact .inl z
        · rw [z]; exact .inl q
        · exact .inr z
    · rw [putK_fresh q, List.map_cons, List.mem_cons, List.mem_append, List.mem_singleton]
      constructor
      · rintro ((z | z) | z)
        · exact .inl z
        · exact .inr (.inl z)
        · exact .inr (.inr z)
      · rintro (z | z | z)
        · exact .inl (.inl z)
        · exact .inl (.inr z)
        · exact .inr z
theorem pairs_at {K : KW} {m : List Addr} {H : Hp} : ∀ {ds : List D} {vs : List V} {is : List Int}, DReps K m H ds vs → keysI ds = some is → ∃ (ps : List Addr) (kvs : List (Key × V)), vs = ps.map V.ref ∧ Paired (fun p kv => SqT K.K H p [kV kv.1, kv.2]) ps kvs ∧ kvs.map (·.1) = is.map Sum.inl
  | [], vs, is, r, e => by
    rw [DReps] at r; subst r
    simp [keysI] at e; subst e
    exact ⟨[], [], rfl, .nil, rfl⟩
  | d :: ds, vs, is, r, e => by
    rw [DReps] at r
    obtain ⟨v, ws, rfl, r1, r2⟩ := r
    simp only [keysI, Option.bind_eq_some_iff, Option.map_eq_some_iff] at e
    obtain ⟨i, e1, js, e2, rfl⟩ := e
    obtain ⟨ps, kvs, rfl, p1, p2⟩ := pairs_at r2 e2
    unfold keyI at e1
    split at e1
    · rename_i x
      cases e1
      rw [DRep] at r1
      obtain ⟨q, xs, rfl, h1, h2⟩ := r1
      rw [DReps] at h2
      obtain ⟨v1, w1, rfl, h3, h4⟩ := h2
      rw [DReps] at h4
      obtain ⟨v2, w2, rfl, h5, h6⟩ := h4
      rw [DReps] at h6
      subst h6
      cases D.int_inv h3
      exact ⟨q :: ps, (.inl i, v2) :: kvs, rfl, .cons h1 p1, by simp [p2]⟩
    · cases e1
theorem c_dictP (hK : Z.K = X.kw) (hc : X.calm = true) : CallR X (.type "dict") (rN Z fDictP) := by
  obtain ⟨K, T, ec⟩ := Z
  obtain rfl : K = X.kw := hK
  intro pins st σ H xs us Q I rx ⟨m, g, ds, s, hd, h⟩
  unfold fDictP at h
  split at h
  · obtain ⟨v, rfl, h1⟩ := reps1 hd
    split at h
    · rename_i items e0
      split at h
      · rename_i is e1
        obtain ⟨p, ys, rfl, h2, h3⟩ := lstV_at s h1 e0
        obtain ⟨ps, kvs, rfl, p1, p2⟩ := pairs_at h3 e1
        refine call_dictP hc pins st σ H _ us Q I rx ⟨p, ps, kvs, rfl, .inl h2, p1, fun q hq => ?_⟩
        obtain ⟨n1, n2⟩ := mergeK_keys kvs [] .nil
        have len : (mergeK [] kvs).length = (canon is).length := by
          have e2 : ((mergeK [] kvs).map (·.1)).Perm ((canon is).map Sum.inl) := by
            refine (List.perm_ext_iff_of_nodup n1 ?_).mpr fun k => ?_
            · rw [List.Nodup, List.pairwise_map]
              exact (nodup_of_lt (pw_canon is)).imp fun h z => h (Sum.inl.inj z)
            · rw [n2, p2]
              simp only [List.map_nil, List.not_mem_nil, false_or, List.mem_map, mem_canon]
          have := e2.length_eq
          simpa using this
        obtain ⟨e3, s3⟩ := s.new (u := .dK (mergeK [] kvs)) (o := .dkn (canon is).length) hq ⟨_, upd_same, len⟩
        refine h _ _ (.ref q) e3 s3 ?_
        show DRep _ _ _ (.ref g.length) _
        rw [DRep]
        exact ⟨q, rfl, by rw [← s.len]; simp⟩
      · exact h.elim
    · exact h.elim
  · exact h.elim
/-! ### set(xs) of ints, len of all of these -/
def fSetI : FN := fun xs g => match xs with
  | [d] => match seqV g d with
    | some ds => match intsOf ds with
      | some is => if is.length < 4000 then some (.ref g.length, g ++ [.iset (canon is)]) else none
      | none => none
    | none => none
  | _ => none
theorem c_setI (hK : Z.K = X.kw) (hc : X.calm = true) : CallR X (.type "set") (rN Z fSetI) := by
  obtain ⟨K, T, ec⟩ := Z
  obtain rfl : K = X.kw := hK
  intro pins st σ H xs us Q I rx ⟨m, g, ds, s, hd, h⟩
  unfold fSetI at h
  split at h
  · obtain ⟨v, rfl, h1⟩ := reps1 hd
    split at h
    · rename_i items e0
      split at h
      · rename_i is e1
        split at h
        · rename_i hlen
          obtain ⟨p, ys, rfl, h2, h3⟩ := seqV_at s h1 e0
          have hx := ints_reps h3 e1
          subst hx
          obtain ⟨tup, its, rvs, hl⟩ : ∃ (tup : Bool) (its : List Value), Vals (is.map V.int) its ∧ (if tup then st.heap.IsTuple p its.toArray else st.heap.IsList p its.toArray) := by
            rcases h2 with h2 | h2
            · obtain ⟨its, rv, pl, _⟩ := I.list h2
              exact ⟨false, its, rv, pl.isList⟩
            · obtain ⟨its, rv, pl, _⟩ := I.tuple h2
              exact ⟨true, its, rv, pl⟩
          rw [Vals.ref1 rx]
          refine setOfI tup is (I.ok.hd hc) hl (by simpa using intsAre_of rvs) (by unfold scanBound; omega) fun h' tk c R lc k => ?_
          have hcc := setR_count R
          subst hcc
          have ok : ObjOk X.prog X.w (upd H st.heap.objs.size (SetO X.w st.heap.objs.size (fun j => decide (j ∈ is)) (canon is).length)) h' st.heap.objs.size (SetO X.w st.heap.objs.size (fun j => decide (j ∈ is)) (canon is).length) := setO_new R
          have hn := I.hok.fresh (Nat.le_refl st.heap.objs.size)
          have eS : (fun j => decide (j ∈ is)) = (fun j => decide (j ∈ canon is)) := by
            funext j
            exact decide_eq_decide.mpr (mem_canon j is).symm
          obtain ⟨e2, s2, r2⟩ := iset_new s hn (pw_canon is) (u := SetO X.w st.heap.objs.size (fun j => decide (j ∈ is)) (canon is).length) (by rw [eS])
          exact ⟨.ref st.heap.objs.size, _, I.laid (t' := tk) k (Nat.le_refl _) ok, rfl, h _ _ _ e2 s2 r2⟩
        · exact h.elim
      · exact h.elim
    · exact h.elim
  · exact h.elim
def fLenV : FN := fun xs g => match xs with
  | [.ref i] => match g[i]? with
    | some (.lst ds) => some (.int ds.length, g)
    | some (.iset ks) => if ks.length < 4000 then some (.int ks.length, g) else none
    | some (.dkn n) => some (.int n, g)
    | _ => none
  | _ => fLen xs g
theorem c_lenV (hK : Z.K = X.kw) : CallR X (.builtin "len") (rN Z fLenV) := by
  intro pins st σ H xs us Q I rx ⟨m, g, ds, s, hd, h⟩
  unfold fLenV at h
  split at h
  · rename_i i
    split at h
    · rename_i ds e
      refine c_len hK pins st σ H xs us Q I rx ⟨m, g, _, s, hd, ?_⟩
      have e2 : fLen [D.ref i] g = some (.int ds.length, g) := by
        show (lstOf g (.ref i)).map (fun ds => (D.int ds.length, g)) = _
        rw [lst_ref e]
        rfl
      rw [e2]
      exact h
    · rename_i ks e
      split at h
      · rename_i hlen
        obtain ⟨K, T, ec⟩ := Z
        obtain rfl : K = X.kw := hK
        obtain ⟨v, rfl, h1⟩ := reps1 hd
        rw [DRep] at h1
        obtain ⟨p, rfl, h1⟩ := h1
        obtain ⟨o, h2, h3⟩ := s.at h1
        rw [e] at h2; cases h2
        have R := setO_get I h3.1
        obtain ⟨o, ses, ep, t, ho, hex, hdd, _, _, _, _, hf, hn, _⟩ := R
        rw [Vals.ref1 rx]
        refine call_len_set ho hex hdd hf (by omega) ⟨.int ks.length, H, I.tok _, ⟨_, by rw [hn]⟩, h.here s D.mk_int⟩
      · exact h.elim
    · rename_i n e
      obtain ⟨K, T, ec⟩ := Z
      obtain rfl : K = X.kw := hK
      obtain ⟨v, rfl, h1⟩ := reps1 hd
      rw [DRep] at h1
      obtain ⟨p, rfl, h1⟩ := h1
      obtain ⟨o, h2, h3⟩ := s.at h1
      rw [e] at h2; cases h2
      obtain ⟨kvs, h4, h5⟩ := h3
      exact call_lenD pins st σ H _ us Q I rx ⟨p, kvs, rfl, h4, by rw [h5]; exact h.here s D.mk_int⟩
    · exact h.elim
  · exact c_len hK pins st σ H xs us Q I rx ⟨m, g, _, s, hd, h⟩
end
end L3

/-! L3w: what the operations on values come to. -/
namespace L3
open PySem L2

instance decD : DecidableEq D := fun a b => decidable_of_iff (D.same a b = true) ⟨D.same_eq a b, fun h => by rw [h]; exact D.same_refl b⟩
@[simp] theorem lstV_rol (g : GH) (ds : List D) : lstV g (.rol ds) = some ds := rfl
@[simp] theorem lstOf_rol (g : GH) (ds : List D) : lstOf g (.rol ds) = some ds := rfl
@[simp] theorem seqV_tup (g : GH) (ds : List D) : seqV g (.tup ds) = some ds := rfl
@[simp] theorem seqV_rol (g : GH) (ds : List D) : seqV g (.rol ds) = some ds := rfl
theorem lstV_ref {g : GH} {i : Nat} {ds : List D} (h : g[i]? = some (.lst ds)) : lstV g (.ref i) = some ds := by simp [lstV, h]
theorem seqV_ref {g : GH} {i : Nat} {ds : List D} (h : g[i]? = some (.lst ds)) : seqV g (.ref i) = some ds := by simp [seqV, lstV, h]
section
variable {α β : Type} {Q : D → GH → Prop} {QI : Src → GH → Prop} {W : Exc → GH → Prop} {ρ : Rho} {g : GH}
@[simp] theorem wp_eLstV (as : AV) : wp (eLstV as ρ g) Q W = wp (as ρ g) (fun ds g1 => ds.length ≤ 16777216 ∧ Q (.rol ds) g1) W := by
  simp only [eLstV, wp_bind]
  congr 1
  funext ds g1
  by_cases h : ds.length ≤ 16777216 <;> simp [h]
@[simp] theorem wp_eMulV (as : AV) (b : EV) : wp (eMulV as b ρ g) Q W = wp (as ρ g) (fun ds g1 => ds.length ≤ 16777216 ∧ wp (b ρ g1) (fun e g2 => ∃ k, e = .int k ∧ (0 ≤ k ∧ k ≤ 1000000 ∧ ds.length * k.toNat ≤ 16777216) ∧ Q (.rol (List.replicate k.toNat ds).flatten) g2) W) W := by
  simp only [eMulV, wp_bind]
  congr 1
  funext ds g1
  by_cases h : ds.length ≤ 16777216
  · simp only [h, if_true, wp_bind, true_and]
    congr 1
    funext e g2
    cases e with
    | int k => by_cases h2 : 0 ≤ k ∧ k ≤ 1000000 ∧ ds.length * k.toNat ≤ 16777216 <;> simp [h2]
    | _ => simp
  · simp [h]
@[simp] theorem wp_eSlV (a : EV) (lo hi : OV) : wp (eSlV a lo hi ρ g) Q W = wp (a ρ g) (fun d g1 => wp (lo ρ g1) (fun l g2 => wp (hi ρ g2) (fun h g3 => wpo (opSlV d l h g3) Q) W) W) W := by simp [eSlV]
@[simp] theorem slV_tup (ds : List D) (lo hi : Option Int) : wpo (opSlV (.tup ds) lo hi g) Q = Q (.tup (cutD ds lo hi)) g := rfl
@[simp] theorem slV_rol (ds : List D) (lo hi : Option Int) : wpo (opSlV (.rol ds) lo hi g) Q = Q (.rol (cutD ds lo hi)) g := rfl
@[simp] theorem wp_eLstRgV (a : EV) : wp (eLstRgV a ρ g) Q W = wp (a ρ g) (fun d g1 => ∃ n, d = .int n ∧ (n ≤ 1000000 ∧ -1000000 ≤ n) ∧ Q (.rol (rangeD 0 n)) g1) W := by
  simp only [eLstRgV, wp_bind]
  congr 1
  funext d g1
  cases d with
  | int n => by_cases h : n ≤ 1000000 ∧ -1000000 ≤ n <;> simp [h]
  | _ => simp
@[simp] theorem wp_eLstRgV2 (a b : EV) : wp (eLstRgV2 a b ρ g) Q W = wp (a ρ g) (fun d g1 => wp (b ρ g1) (fun e g2 => ∃ n k, d = .int n ∧ e = .int k ∧ ((n ≤ 1000000 ∧ -1000000 ≤ n) ∧ k ≤ 1000000 ∧ -1000000 ≤ k) ∧ Q (.rol (rangeD n k)) g2) W) W := by
  simp only [eLstRgV2, wp_bind]
  congr 1
  funext d g1
  congr 1
  funext e g2
  cases d with
  | int n => cases e with
    | int k => by_cases h : (n ≤ 1000000 ∧ -1000000 ≤ n) ∧ k ≤ 1000000 ∧ -1000000 ≤ k <;> simp [h]
    | _ => simp
  | _ => simp
@[simp] theorem wp_eCompV (src : IV) (t : T3) (test : TV) (elt : EV) (own : List Nat) :
    wp (eCompV src t test elt own ρ g) Q W = wp (src ρ g) (fun s g1 => s.items.length < 16777216 ∧ wp (compL s.deps t test elt (wipeR ρ own) s.items g1) (fun ys g2 => Q (.rol ys) g2) W) W := by
  simp only [eCompV, wp_bind]
  congr 1
  funext s g1
  by_cases h : s.items.length < 16777216 <;> simp [h]
@[simp] theorem addV_int (i j : Int) : wpo (opAddV (.int i) (.int j) g) Q = Q (.int (i + j)) g := rfl
@[simp] theorem addV_tup (a b : List D) : wpo (opAddV (.tup a) (.tup b) g) Q = (a.length + b.length ≤ 16777216 ∧ Q (.tup (a ++ b)) g) := by
  show wpo (opAdd (.tup a) (.tup b) g) Q = _
  simp
@[simp] theorem addV_str (a b : Str) : wpo (opAddV (.str a) (.str b) g) Q = (a.length + b.length ≤ 16777216 ∧ Q (.str (a ++ b)) g) := by
  show wpo (opAdd (.str a) (.str b) g) Q = _
  simp
@[simp] theorem addV_rol (a b : List D) : wpo (opAddV (.rol a) (.rol b) g) Q = (a.length + b.length ≤ 16777216 ∧ Q (.rol (a ++ b)) g) := by
  unfold opAddV
  simp only [lstV_rol, wpo_if]
@[simp] theorem listV_tup (ds : List D) : wpo (fListV [.tup ds] g) Q = Q (.rol ds) g := rfl
@[simp] theorem listV_rol (ds : List D) : wpo (fListV [.rol ds] g) Q = Q (.rol ds) g := rfl
@[simp] theorem lenV_tup (ds : List D) : wpo (fLenV [.tup ds] g) Q = Q (.int ds.length) g := rfl
@[simp] theorem lenV_rol (ds : List D) : wpo (fLenV [.rol ds] g) Q = Q (.int ds.length) g := rfl
theorem lenV_lst {d : D} {ds : List D} (h : lstOf g d = some ds) : wpo (fLenV [d] g) Q = Q (.int ds.length) g := by
  cases d with
  | ref i =>
    have e := lst_get h
    simp [fLenV, e]
  | _ => exact len_lst h
theorem lenV_iset {i : Nat} {ks : List Int} (h : g[i]? = some (.iset ks)) : wpo (fLenV [.ref i] g) Q = (ks.length < 4000 ∧ Q (.int ks.length) g) := by
  simp [fLenV, h]
theorem lenV_dkn {i n : Nat} (h : g[i]? = some (.dkn n)) : wpo (fLenV [.ref i] g) Q = Q (.int n) g := by
  simp [fLenV, h]
@[simp] theorem ix_rol (ds : List D) (i : Int) : wpo (opIx (.rol ds) (.int i) g) Q = ∃ x, atI ds i = some x ∧ Q x g := ix_lst rfl i
@[simp] theorem tuple_rol (ds : List D) : wpo (fTuple [.rol ds] g) Q = Q (.tup ds) g := rfl
@[simp] theorem intsOf_ints (is : List Int) : intsOf (is.map D.int) = some is := intsOf_map is
@[simp] theorem setI_ints (is : List Int) : wpo (fSetI [.rol (is.map D.int)] g) Q = (is.length < 4000 ∧ Q (.ref g.length) (g ++ [.iset (canon is)])) := by
  simp [fSetI]
@[simp] theorem setI_tup (is : List Int) : wpo (fSetI [.tup (is.map D.int)] g) Q = (is.length < 4000 ∧ Q (.ref g.length) (g ++ [.iset (canon is)])) := by
  simp [fSetI]
@[simp] theorem wp_eSortSet (a : EV) : wp (eSortSet a ρ g) Q W = wp (a ρ g) (fun d g1 => ∃ es, setOf g1 d = some es ∧ Q (.rol es) g1) W := by
  simp only [eSortSet, wp_bind]
  congr 1
  funext d g1
  cases h : setOf g1 d <;> simp [h]
@[simp] theorem wp_eLenSet (a : EV) : wp (eLenSet a ρ g) Q W = wp (a ρ g) (fun d g1 => ∃ es, setOf g1 d = some es ∧ Q (.int es.length) g1) W := by
  simp only [eLenSet, wp_bind]
  congr 1
  funext d g1
  cases h : setOf g1 d <;> simp [h]
@[simp] theorem wp_iDictK (a : EV) : wp (iDictK a ρ g) QI W = wp (a ρ g) (fun d g1 => (∃ i kvs, d = .ref i ∧ g1[i]? = some (.dct kvs) ∧ QI ⟨[], kvs.map (·.1)⟩ (g1.set i (.dcf kvs))) ∨ ∃ i kvs, d = .ref i ∧ g1[i]? = some (.dcf kvs) ∧ QI ⟨[], kvs.map (·.1)⟩ g1) W := by
  simp only [iDictK, wp_bind]
  congr 1
  funext d g1
  cases d with
  | ref i =>
    cases e : g1[i]? with
    | none => simp [e]
    | some o => cases o <;> simp [e]
  | _ => simp
end
/-! ### data without references, their comparison -/
mutual
def pyD : D → PyData
  | .non => .none
  | .bl b => .bool b
  | .int i => .int i
  | .str s => .str s
  | .tup ds => .tuple (pyDs ds)
  | .rol ds => .list (pyDs ds)
  | _ => .none
def pyDs : List D → List PyData
  | [] => []
  | d :: ds => pyD d :: pyDs ds
end
mutual
/-- truth values as numbers -/
def nrm : D → D
  | .bl b => .int (if b then 1 else 0)
  | .tup ds => .tup (nrms ds)
  | .rol ds => .rol (nrms ds)
  | d => d
def nrms : List D → List D
  | [] => []
  | d :: ds => nrm d :: nrms ds
end
def flD : Nat → D → Bool
  | 0, _ => false
  | k + 1, d => match d with
    | .tup ds => ds.all (flD k)
    | .rol ds => ds.all (flD k)
    | .str s => PyData.strOk s
    | .ref _ => false
    | .scr _ => false
    | _ => true
theorem pyDs_map : ∀ ds, pyDs ds = ds.map pyD
  | [] => rfl
  | d :: ds => by rw [pyDs, pyDs_map ds]; rfl
@[simp] theorem nrms_map : ∀ ds, nrms ds = ds.map nrm
  | [] => rfl
  | d :: ds => by rw [nrms, nrms_map ds]; rfl
@[simp] theorem nrm_int (i : Int) : nrm (.int i) = .int i := by simp [nrm]
@[simp] theorem nrm_non : nrm .non = .non := by simp [nrm]
@[simp] theorem nrm_str (s : Str) : nrm (.str s) = .str s := by simp [nrm]
@[simp] theorem nrm_bl (b : Bool) : nrm (.bl b) = .int (if b then 1 else 0) := by rw [nrm]
@[simp] theorem nrm_tup (ds : List D) : nrm (.tup ds) = .tup (ds.map nrm) := by rw [nrm, nrms_map]
@[simp] theorem nrm_rol (ds : List D) : nrm (.rol ds) = .rol (ds.map nrm) := by rw [nrm, nrms_map]
@[simp] theorem flD_tup (k : Nat) (ds : List D) : flD (k + 1) (.tup ds) = ds.all (flD k) := rfl
@[simp] theorem flD_rol (k : Nat) (ds : List D) : flD (k + 1) (.rol ds) = ds.all (flD k) := rfl
@[simp] theorem flD_int (k : Nat) (i : Int) : flD (k + 1) (.int i) = true := rfl
@[simp] theorem flD_bl (k : Nat) (i : Bool) : flD (k + 1) (.bl i) = true := rfl
@[simp] theorem flD_non (k : Nat) : flD (k + 1) .non = true := rfl
@[simp] theorem flD_str (k : Nat) (s : Str) : flD (k + 1) (.str s) = PyData.strOk s := rfl
theorem flD_up : ∀ (n m : Nat) (d : D), n ≤ m → flD n d = true → flD m d = true
  | 0, _, _, _, h => by cases h
  | n + 1, 0, _, l, _ => by omega
  | n + 1, m + 1, d, l, h => by
    cases d with
    | tup ds =>
      rw [flD_tup, List.all_eq_true] at h ⊢
      exact fun x hx => flD_up n m x (by omega) (h x hx)
    | rol ds =>
      rw [flD_rol, List.all_eq_true] at h ⊢
      exact fun x hx => flD_up n m x (by omega) (h x hx)
    | _ => exact h
theorem toPy_fl {g : GH} : ∀ (k : Nat) (d : D), flD k d = true → toPy g k d = some (pyD d)
  | 0, _, h => by cases h
  | k + 1, d, h => by
    have ih : ∀ ds : List D, ds.all (flD k) = true → ds.mapM (toPy g k) = some (pyDs ds) := fun ds => by
      induction ds with
      | nil => intro _; rfl
      | cons x xs ihx =>
        intro h
        rw [List.all_cons, Bool.and_eq_true] at h
        rw [List.mapM_cons, toPy_fl k x h.1, ihx h.2]
        rfl
    cases d with
    | tup ds => rw [toPy_tup, ih ds h]; rfl
    | rol ds => rw [toPy_rol, ih ds h]; rfl
    | str s => rw [toPy_str h]; rfl
    | ref i => cases h
    | scr i => cases h
    | _ => rfl
mutual
theorem eqv_nrm : ∀ (k : Nat) (d e : D), flD k d = true → flD k e = true → PyData.eqv (pyD d) (pyD e) = decide (nrm d = nrm e)
  | 0, _, _, h, _ => by cases h
  | k + 1, d, e, h1, h2 => by
    cases d with
    | non => cases e <;> first | (cases h2; done) | simp [pyD, nrm, PyData.eqv]
    | bl a =>
      cases e <;> first | (cases h2; done) | skip
      case bl b => cases a <;> cases b <;> simp [pyD, nrm, PyData.eqv]
      case int j => cases a <;> simp [pyD, nrm, PyData.eqv, Bool.beq_eq_decide_eq]
      all_goals simp [pyD, nrm, PyData.eqv]
    | int i =>
      cases e <;> first | (cases h2; done) | skip
      case bl b => cases b <;> simp [pyD, nrm, PyData.eqv, Bool.beq_eq_decide_eq]
      case int j => simp only [pyD, nrm, PyData.eqv, D.int.injEq]; rfl
      all_goals simp [pyD, nrm, PyData.eqv]
    | str s =>
      cases e <;> first | (cases h2; done) | skip
      case str t => simp only [pyD, nrm, PyData.eqv, D.str.injEq]; rw [Bool.eq_iff_iff]; simp
      all_goals simp [pyD, nrm, PyData.eqv]
    | tup ds =>
      cases e <;> first | (cases h2; done) | skip
      case tup es =>
        rw [pyD, pyD, PyData.eqv, eqvs_nrm k ds es h1 h2]
        simp
      all_goals simp [pyD, nrm, PyData.eqv]
    | rol ds =>
      cases e <;> first | (cases h2; done) | skip
      case rol es =>
        rw [pyD, pyD, PyData.eqv, eqvs_nrm k ds es h1 h2]
        simp
      all_goals simp [pyD, nrm, PyData.eqv]
    | ref _ => cases h1
    | scr _ => cases h1
theorem eqvs_nrm : ∀ (k : Nat) (ds es : List D), ds.all (flD k) = true → es.all (flD k) = true → PyData.eqvAll (pyDs ds) (pyDs es) = decide (ds.map nrm = es.map nrm)
  | _, [], [], _, _ => by simp [pyDs, PyData.eqvAll]
  | _, [], _ :: _, _, _ => by simp [pyDs, PyData.eqvAll]
  | _, _ :: _, [], _, _ => by simp [pyDs, PyData.eqvAll]
  | k, d :: ds, e :: es, h1, h2 => by
    rw [List.all_cons, Bool.and_eq_true] at h1 h2
    rw [pyDs, pyDs, PyData.eqvAll, eqv_nrm k d e h1.1 h2.1, eqvs_nrm k ds es h1.2 h2.2]
    simp
end
section
variable {Q : D → GH → Prop} {g : GH} {d e : D} {ds : List D}
theorem eq_fl (h1 : flD 16 d = true) (h2 : flD 16 e = true) : wpo (opEq d e g) Q = Q (.bl (decide (nrm d = nrm e))) g := by
  rw [eq_py (toPy_fl 16 d h1) (toPy_fl 16 e h2), eqv_nrm 16 d e h1 h2]
theorem ne_fl (h1 : flD 16 d = true) (h2 : flD 16 e = true) : wpo (opNe d e g) Q = Q (.bl (!decide (nrm d = nrm e))) g := by
  rw [ne_py (toPy_fl 16 d h1) (toPy_fl 16 e h2), eqv_nrm 16 d e h1 h2]
theorem any_fl {ds : List D} (h : ds.all (flD 16) = true) (h1 : flD 16 d = true) : ((pyDs ds).any fun z => PyData.eqv z (pyD d)) = ds.any fun e => decide (nrm e = nrm d) := by
  induction ds with
  | nil => simp [pyDs]
  | cons x xs ih =>
    rw [List.all_cons, Bool.and_eq_true] at h
    rw [pyDs, List.any_cons, List.any_cons, ih h.2, eqv_nrm 16 x d h.1 h1]
theorem in_tup (h1 : flD 16 d = true) (h2 : ds.all (flD 16) = true) : wpo (opIn d (.tup ds) g) Q = Q (.bl (ds.any fun e => decide (nrm e = nrm d))) g := by
  have e : toPy g 17 (.tup ds) = some (.tuple (pyDs ds)) := toPy_fl 17 (.tup ds) h2
  simp only [opIn, itemsOf, e, toPy_fl 16 d h1, any_fl h2 h1, wpo_some]
theorem in_rol (h1 : flD 16 d = true) (h2 : ds.all (flD 16) = true) : wpo (opIn d (.rol ds) g) Q = Q (.bl (ds.any fun e => decide (nrm e = nrm d))) g := by
  have e : toPy g 17 (.rol ds) = some (.list (pyDs ds)) := toPy_fl 17 (.rol ds) h2
  simp only [opIn, itemsOf, e, toPy_fl 16 d h1, any_fl h2 h1, wpo_some]
theorem notIn_tup (h1 : flD 16 d = true) (h2 : ds.all (flD 16) = true) : wpo (opNotIn d (.tup ds) g) Q = Q (.bl (!ds.any fun e => decide (nrm e = nrm d))) g := by
  have e : toPy g 17 (.tup ds) = some (.tuple (pyDs ds)) := toPy_fl 17 (.tup ds) h2
  simp only [opNotIn, itemsOf, e, toPy_fl 16 d h1, any_fl h2 h1, wpo_some]
theorem notIn_rol (h1 : flD 16 d = true) (h2 : ds.all (flD 16) = true) : wpo (opNotIn d (.rol ds) g) Q = Q (.bl (!ds.any fun e => decide (nrm e = nrm d))) g := by
  have e : toPy g 17 (.rol ds) = some (.list (pyDs ds)) := toPy_fl 17 (.rol ds) h2
  simp only [opNotIn, itemsOf, e, toPy_fl 16 d h1, any_fl h2 h1, wpo_some]
@[simp] theorem in_tupI (i : Int) (is : List Int) : wpo (opIn (.int i) (.tup (is.map D.int)) g) Q = Q (.bl (decide (i ∈ is))) g := by
  rw [in_tup rfl (by simp [List.all_eq_true])]
  congr 2
  rw [Bool.eq_iff_iff]
  simp
@[simp] theorem notIn_tupI (i : Int) (is : List Int) : wpo (opNotIn (.int i) (.tup (is.map D.int)) g) Q = Q (.bl (!decide (i ∈ is))) g := by
  rw [notIn_tup rfl (by simp [List.all_eq_true])]
  congr 3
  rw [Bool.eq_iff_iff]
  simp
@[simp] theorem eq_rolI (is js : List Int) : wpo (opEq (.rol (is.map D.int)) (.rol (js.map D.int)) g) Q = Q (.bl (decide (is = js))) g := by
  rw [eq_fl (by simp [List.all_eq_true]) (by simp [List.all_eq_true])]
  congr 2
  rw [decide_eq_decide]
  have inj : Function.Injective D.int := fun a b h => D.int.inj h
  simp [Function.comp_def, List.map_inj_right (f := D.int) (fun a b h => D.int.inj h)]
end
/-! ### comprehensions and loops over known lists -/
theorem comp_map {α : Type} {enc : α → D} {t : T3} {test : TV} {elt : EV} {ρ : Rho} {W : Exc → GH → Prop} {g : GH} (p : α → Bool) (f : α → D) (xs : List α)
    (hs : ∀ x ∈ xs, ∃ ρ', t.set (enc x) ρ = some ρ' ∧ wp (test ρ' g) (fun b g1 => b = p x ∧ g1 = g ∧ (p x = true → wp (elt ρ' g) (fun y g2 => y = f x ∧ g2 = g) F0)) F0)
    {QL : List D → GH → Prop} (hq : QL ((xs.filter p).map f) g) : wp (compL [] t test elt ρ (xs.map enc) g) QL W := by
  have key : ∀ xs : List α, (∀ x ∈ xs, ∃ ρ', t.set (enc x) ρ = some ρ' ∧ wp (test ρ' g) (fun b g1 => b = p x ∧ g1 = g ∧ (p x = true → wp (elt ρ' g) (fun y g2 => y = f x ∧ g2 = g) F0)) F0) → compL [] t test elt ρ (xs.map enc) g = .ok ((xs.filter p).map f) g := by
    intro xs
    induction xs with
    | nil => intro _; rfl
    | cons x xs ih =>
      intro hs
      obtain ⟨ρ', e1, h1⟩ := hs x (by simp)
      obtain ⟨b, g1, e2, rfl, rfl, h2⟩ := ok_of_wp h1
      rw [List.map_cons]
      unfold compL
      rw [if_pos (show depsOk _ [] = true from rfl)]
      simp only [e1, e2, noEr, Res.bind_ok]
      have ih' := ih fun y hy => hs y (by simp [hy])
      cases hp : p x with
      | false => simp [hp, ih']
      | true =>
        have h3 := h2 hp
        obtain ⟨y, g2, e3, rfl, rfl⟩ := ok_of_wp h3
        simp [hp, e3, noEr, ih']
  rw [key xs hs]
  exact hq
/-- the same, over the items themselves -/
theorem comp_all {t : T3} {test : TV} {elt : EV} {ρ : Rho} {W : Exc → GH → Prop} {g : GH} (p : D → Bool) (f : D → D) (xs : List D)
    (hs : ∀ x ∈ xs, ∃ ρ', t.set x ρ = some ρ' ∧ wp (test ρ' g) (fun b g1 => b = p x ∧ g1 = g ∧ (p x = true → wp (elt ρ' g) (fun y g2 => y = f x ∧ g2 = g) F0)) F0)
    {QL : List D → GH → Prop} (hq : QL ((xs.filter p).map f) g) : wp (compL [] t test elt ρ xs g) QL W := by
  have := comp_map (enc := fun d : D => d) (W := W) p f xs hs hq
  simpa using this
theorem wps_list {α : Type} {enc : α → D} {step : D → SV} {k : Kt} (xs : List α) (I : List α → Rho → GH → Prop)
    (hs : ∀ done x rest ρ g, xs = done ++ x :: rest → I done ρ g → wps (step (enc x) ρ g) { k with nx := I (done ++ [x]), ct := I (done ++ [x]), bk := k.nx }) (hn : ∀ ρ g, I xs ρ g → k.nx ρ g)
    {ρ : Rho} {g : GH} (h : I [] ρ g) : wps (forL [] step (xs.map enc) ρ g) k := by
  have key : ∀ (rest done : List α) (ρ : Rho) (g : GH), xs = done ++ rest → I done ρ g → wps (forL [] step (rest.map enc) ρ g) k := by
    intro rest
    induction rest with
    | nil =>
      intro done ρ g e h
      unfold forL
      rw [List.map_nil]
      simp only
      rw [if_pos (show depsOk _ [] = true from rfl)]
      rw [List.append_nil] at e
      rw [← e] at h
      exact hn ρ g h
    | cons x rest ih =>
      intro done ρ g e h
      have h1 := hs done x rest ρ g e h
      rw [List.map_cons]
      unfold forL
      rw [if_pos (show depsOk _ [] = true from rfl)]
      have ih' := fun ρ' g' hh => ih (done ++ [x]) ρ' g' (by simp [e]) hh
      cases e2 : step (enc x) ρ g with
      | nx ρ' g' => rw [e2] at h1; exact ih' ρ' g' h1
      | ct ρ' g' => rw [e2] at h1; exact ih' ρ' g' h1
      | bk ρ' g' => rw [e2] at h1; exact h1
      | rt d g' => rw [e2] at h1; exact h1
      | er x ρ' g' => rw [e2] at h1; exact h1
      | bad => rw [e2] at h1; exact h1
  exact key xs [] ρ g rfl h
/-! ### calls that leave nothing behind -/
theorem keepOk_of {n : Nat} : ∀ {g g1 : GH}, g.length ≤ g1.length → (∀ (i : Nat) o, g[i]? = some o → ∃ o', g1[i]? = some o' ∧ (o' = o ∨ clO n o' = true)) → keepOk n g g1 = true
  | [], _, _, _ => by simp [keepOk]
  | o :: g, [], h, _ => by simp at h
  | o :: g, o' :: g1, h, k => by
    obtain ⟨o2, e1, e2⟩ := k 0 o rfl
    simp at e1
    subst e1
    simp only [keepOk, Bool.and_eq_true, Bool.or_eq_true]
    refine ⟨?_, keepOk_of (by simpa using h) fun i u e => ?_⟩
    · rcases e2 with rfl | e2
      · exact .inl (sameO_refl _)
      · exact .inr e2
    · simpa using k (i + 1) u (by simpa using e)
theorem keepOk_ex {g g1 : GH} (h : Ex g g1) : keepOk g.length g g1 = true := keepOk_of h.1 fun i o e => ⟨o, h.2 i o e, .inl rfl⟩
theorem take_ex {g g1 : GH} (h : Ex g g1) : g1.take g.length = g := by
  apply List.ext_getElem?
  intro i
  rcases Nat.lt_or_ge i g.length with l | l
  · rw [List.getElem?_take_of_lt l, h.2 i g[i] (by simp [l])]
    simp [l]
  · rw [List.getElem?_eq_none (by simp; omega), List.getElem?_eq_none l]
theorem fzD_fl {g : GH} {n : Nat} : ∀ (k : Nat) (d : D), flD k d = true → fzD g n k d = some d
  | 0, _, h => by cases h
  | k + 1, d, h => by
    have ih : ∀ ds : List D, ds.all (flD k) = true → ds.mapM (fzD g n k) = some ds := fun ds => by
      induction ds with
      | nil => intro _; rfl
      | cons x xs ihx =>
        intro h
        rw [List.all_cons, Bool.and_eq_true] at h
        rw [List.mapM_cons, fzD_fl k x h.1, ihx h.2]
        rfl
    unfold fzD
    cases d with
    | tup ds => simp only; rw [ih ds h]; rfl
    | rol ds => simp only; rw [ih ds h]; rfl
    | ref i => cases h
    | scr i => cases h
    | _ => rfl
/-- a list of data made here is a value behind the call -/
theorem fzD_lst {g : GH} {n i k : Nat} {ds : List D} (h : g[i]? = some (.lst ds)) (hi : n ≤ i) (hf : ds.all (flD k) = true) : fzD g n (k + 1) (.ref i) = some (.rol ds) := by
  have ih : ∀ ds : List D, ds.all (flD k) = true → ds.mapM (fzD g n k) = some ds := fun ds => by
    induction ds with
    | nil => intro _; rfl
    | cons x xs ihx =>
      intro h
      rw [List.all_cons, Bool.and_eq_true] at h
      rw [List.mapM_cons, fzD_fl k x h.1, ihx h.2]
      rfl
  unfold fzD
  simp only
  rw [if_neg (by omega), h]
  simp only
  rw [ih ds hf]
  rfl
theorem gc_eq {F : List D → GH → Res D} {as : List D} {g : GH} {v : D} (h : wp (F as g) (fun x g' => Ex g g' ∧ fzD g' g.length 16 x = some v) F0) : gc F as g = .ok v g := by
  obtain ⟨x, g1, e, h1, h2⟩ := ok_of_wp h
  unfold gc
  rw [e]
  simp only
  rw [if_pos (keepOk_ex h1), h2]
  simp only
  rw [take_ex h1]
theorem gc_fl {F : List D → GH → Res D} {as : List D} {g : GH} {v : D} (hv : flD 16 v = true) (h : wp (F as g) (fun x g' => x = v ∧ Ex g g') F0) : gc F as g = .ok v g :=
  gc_eq (h.use fun x g' ⟨e, h2⟩ => ⟨h2, by rw [e]; exact fzD_fl 16 v hv⟩)
theorem gc_er {F : List D → GH → Res D} {as : List D} {g : GH} {c : Nat} (h : wp (F as g) (fun _ _ => False) (fun e g' => e = .own c ∧ Ex g g')) : gc F as g = .er (.own c) g := by
  unfold gc
  cases e : F as g with
  | ok a g' => rw [e] at h; exact h.elim
  | bad => rw [e] at h; exact h.elim
  | er x g' =>
    rw [e] at h
    obtain ⟨rfl, h2⟩ := h
    simp only
    rw [if_pos (by rw [keepOk_ex h2]; rfl), take_ex h2]
/-- the flask may change -/
theorem gc_fk {F : List D → GH → Res D} {as : List D} {g : GH} {r : Nat} {P : D → Prop} (F0r : Fk r g) (h : wp (F as g) (fun x g' => (P x ∧ flD 16 x = true) ∧ Fk r g' ∧ Kp r g g') F0) : wp (gc F as g) (fun x g' => P x ∧ Fk r g' ∧ Kp r g g' ∧ g'.length = g.length) F0 := by
  obtain ⟨x, g1, e, ⟨h1, h2⟩, h3, h4⟩ := ok_of_wp h
  unfold gc
  rw [e]
  simp only
  obtain ⟨a, b, e3, hb⟩ := h3
  have hr := F0r.lt
  rw [if_pos (keepOk_of h4.1 fun i o ho => ?_), fzD_fl 16 x h2]
  · simp only [wp_ok]
    refine ⟨h1, ⟨a, b, by rw [List.getElem?_take_of_lt hr]; exact e3, hb⟩, ⟨by rw [List.length_take]; have := h4.1; omega, fun i o hi ho => ?_⟩, by rw [List.length_take]; have := h4.1; omega⟩
    have hl := (List.getElem?_eq_some_iff.mp ho).1
    rw [List.getElem?_take_of_lt hl]
    exact h4.2 i o hi ho
  · by_cases hi : i = r
    · subst hi
      exact ⟨_, e3, .inr (by simp [clO, clDs, clD])⟩
    · exact ⟨o, h4.2 i o hi ho, .inl rfl⟩
end L3

/-! L3x: rows of numbers as Lean sees them: sets, sorts. -/
namespace L3
open PySem PySem.Spec PyProof.Rows L2 PySem.W

/-! ### lists without repetition -/
section
variable {α : Type} [DecidableEq α]
theorem nodup_le : ∀ (xs ds : List α), ds.Nodup → (∀ x ∈ ds, x ∈ xs) → ds.length ≤ xs.length
  | [], ds, _, h => by
    cases ds with
    | nil => simp
    | cons d ds => exact absurd (h d (by simp)) (by simp)
  | x :: xs, ds, hn, h => by
    by_cases hx : x ∈ ds
    · have := nodup_le xs (ds.erase x) (hn.erase x) fun y hy => by
        have z := hn.mem_erase_iff.mp hy
        rcases List.mem_cons.mp (h y z.2) with e | e
        · exact absurd e z.1
        · exact e
      rw [List.length_erase_of_mem hx] at this
      simp only [List.length_cons]
      omega
    · have := nodup_le xs ds hn fun y hy => by
        rcases List.mem_cons.mp (h y hy) with e | e
        · rw [e] at hy; exact absurd hy hx
        · exact e
      simp only [List.length_cons]
      omega
theorem nodup_of_len : ∀ (xs ds : List α), ds.Nodup → (∀ x, x ∈ ds ↔ x ∈ xs) → ds.length = xs.length → xs.Nodup
  | [], _, _, _, _ => .nil
  | x :: xs, ds, hn, h, l => by
    have hx : x ∈ ds := (h x).mpr (by simp)
    by_cases h2 : x ∈ xs
    · have := nodup_le xs ds hn fun y hy => by
        rcases List.mem_cons.mp ((h y).mp hy) with e | e
        · rw [e]; exact h2
        · exact e
      simp only [List.length_cons] at l
      omega
    · refine List.nodup_cons.mpr ⟨h2, nodup_of_len xs (ds.erase x) (hn.erase x) (fun y => ?_) ?_⟩
      · rw [hn.mem_erase_iff]
        constructor
        · intro ⟨z1, z2⟩
          rcases List.mem_cons.mp ((h y).mp z2) with e | e
          · exact absurd e z1
          · exact e
        · intro hy
          exact ⟨fun z => h2 (by rw [← z]; exact hy), (h y).mpr (by simp [hy])⟩
      · rw [List.length_erase_of_mem hx, l]
        simp
theorem len_nodup {xs ds : List α} (hn : ds.Nodup) (h : ∀ x, x ∈ ds ↔ x ∈ xs) : ds.length = xs.length ↔ xs.Nodup := by
  constructor
  · exact nodup_of_len xs ds hn h
  · intro h2
    exact Nat.le_antisymm (nodup_le xs ds hn fun x hx => (h x).mp hx) (nodup_le ds xs h2 fun x hx => (h x).mpr hx)
end
theorem canon_len_iff (is : List Int) : (canon is).length = is.length ↔ is.Nodup := len_nodup (nodup_of_lt (pw_canon is)) fun x => mem_canon x is
theorem setOf_ints {g : GH} {d : D} {is : List Int} (h : seqV g d = some (is.map D.int)) (hl : is.length < 64) : setOf g d = some ((canon is).map D.int) := by
  simp [setOf, h, hl]
/-! ### typed rows -/
structure RowE {α : Type} (enc : α → D) (key : α → List Int) : Prop where
  row : ∀ a, rowD (enc a) = some (key a)
  ne : ∀ a, key a ≠ []
  shp : ∀ a b, shpD (enc a) = shpD (enc b)
  inj : ∀ a b, key a = key b → a = b
  fl : ∀ a, flD 2 (enc a) = true
  nr : ∀ a, nrm (enc a) = enc a
section
variable {α : Type} {enc : α → D} {key : α → List Int} (R : RowE enc key)
include R
theorem RowE.kr (a : α) : keyR (enc a) = key a := rowD_key (R.row a)
theorem RowE.encInj (a b : α) (h : enc a = enc b) : a = b := R.inj a b (by rw [← R.kr, ← R.kr, h])
theorem RowE.nrs (xs : List α) : (xs.map enc).map nrm = xs.map enc := by
  rw [List.map_map]
  exact List.map_congr_left fun a _ => R.nr a
theorem RowE.fls {k : Nat} (hk : 2 ≤ k) (xs : List α) : (xs.map enc).all (flD k) = true := by
  rw [List.all_eq_true]
  intro x hx
  obtain ⟨a, _, rfl⟩ := List.mem_map.mp hx
  exact flD_up _ _ _ hk (R.fl a)
theorem RowE.tup (a : α) : ∃ ds, enc a = .tup ds := by
  have := R.row a
  cases h : enc a with
  | tup ds => exact ⟨ds, rfl⟩
  | _ => rw [h] at this; simp [rowD] at this
theorem RowE.setOf {g : GH} {d : D} {xs : List α} (h : seqV g d = some (xs.map enc)) (hl : xs.length < 64) : L3.setOf g d = some (canonR (xs.map enc)) := by
  cases xs with
  | nil =>
    unfold L3.setOf
    rw [h]
    rfl
  | cons x xs =>
    obtain ⟨ds, e⟩ := R.tup x
    have e1 : intsOf ((x :: xs).map enc) = none := by simp [intsOf, e]
    have e2 : okRows ((x :: xs).map enc) = true := by
      unfold okRows
      rw [List.all_eq_true]
      intro d hd
      obtain ⟨a, _, rfl⟩ := List.mem_map.mp hd
      simp [R.row a, R.shp a x]
    have e3 : ((x :: xs).map enc).all (fun d => decide (rowD d ≠ some [])) = true := by
      rw [List.all_eq_true]
      intro d hd
      obtain ⟨a, _, rfl⟩ := List.mem_map.mp hd
      have := R.ne a
      simp [R.row a, this]
    unfold L3.setOf
    rw [h]
    simp only [List.length_map]
    rw [if_pos hl, e1]
    simp only
    rw [e2, e3]
    rfl
theorem RowE.pick : ∀ {ds : List D} {xs : List α}, (∀ d ∈ ds, d ∈ xs.map enc) → ∃ ys : List α, ds = ys.map enc ∧ ∀ y ∈ ys, y ∈ xs
  | [], _, _ => ⟨[], rfl, by simp⟩
  | d :: ds, xs, h => by
    obtain ⟨a, ha, rfl⟩ := List.mem_map.mp (h d (by simp))
    obtain ⟨ys, rfl, hy⟩ := RowE.pick (ds := ds) (xs := xs) fun e he => h e (by simp [he])
    exact ⟨a :: ys, rfl, fun y hy' => by
      rcases List.mem_cons.mp hy' with rfl | z
      · exact ha
      · exact hy y z⟩
abbrev upK {α : Type} (key : α → List Int) (xs : List α) : Prop := xs.Pairwise fun a b => ltR (key a) (key b) = true
theorem RowE.up (xs : List α) : upR (xs.map enc) ↔ upK key xs := by
  unfold upR upK
  rw [List.pairwise_map]
  simp only [R.kr]
theorem RowE.canon (xs : List α) : ∃ ys : List α, canonR (xs.map enc) = ys.map enc ∧ upK key ys ∧ ∀ y, y ∈ ys ↔ y ∈ xs := by
  obtain ⟨ys, e, h⟩ := R.pick (ds := canonR (xs.map enc)) (xs := xs) fun d hd => canonR_sub d _ hd
  refine ⟨ys, e, ?_, fun y => ⟨h y, fun hy => ?_⟩⟩
  · have := canonR_up (xs.map enc)
    rw [e] at this
    exact (R.up ys).mp this
  · obtain ⟨z, hz, ek⟩ := canonR_has (xs.map enc) (enc y) (List.mem_map.mpr ⟨y, hy, rfl⟩)
    rw [e] at hz
    obtain ⟨y', hy', rfl⟩ := List.mem_map.mp hz
    rw [R.kr, R.kr] at ek
    rw [← R.inj _ _ ek]
    exact hy'
omit R in
theorem upK_nodup {xs : List α} (h : upK key xs) : xs.Nodup := List.Pairwise.imp (fun {a b} z e => by rw [e, ltR_irrefl] at z; cases z) h
theorem RowE.canon_eq (xs : List α) : xs.map enc = canonR (xs.map enc) ↔ upK key xs := by
  constructor
  · intro h
    rw [← R.up, h]
    exact canonR_up _
  · intro h
    obtain ⟨ys, e, u, m⟩ := R.canon xs
    rw [e]
    refine upR_one _ _ ((R.up xs).mpr h) ((R.up ys).mpr u) fun d => ?_
    simp only [List.mem_map, m]
theorem RowE.canon_len [DecidableEq α] (xs : List α) : (canonR (xs.map enc)).length = xs.length ↔ xs.Nodup := by
  obtain ⟨ys, e, u, m⟩ := R.canon xs
  rw [e, List.length_map]
  exact len_nodup (upK_nodup u) m
omit R in
theorem pyDs_nums : ∀ {ds : List D} {k : List Int}, numsD ds = some k → pyDs ds = ds.map pyN
  | [], _, _ => rfl
  | d :: ds, k, h => by
    simp only [numsD, Option.bind_eq_some_iff, Option.map_eq_some_iff] at h
    obtain ⟨i, h1, is, h2, rfl⟩ := h
    rw [pyDs, pyDs_nums h2, List.map_cons]
    congr 1
    cases d <;> simp [numD] at h1 <;> simp [pyD, pyN]
theorem RowE.py (g : GH) (a : α) : pyG g (enc a) = pyR (enc a) := by
  unfold pyG
  rw [toPy_fl 16 _ (flD_up _ _ _ (by omega) (R.fl a))]
  have := R.row a
  cases h : enc a with
  | tup ds =>
    rw [h] at this
    show pyD (.tup ds) = pyR (.tup ds)
    rw [pyD, pyDs_nums (k := key a) this]
    rfl
  | _ => rw [h] at this; simp [rowD] at this
omit R in
def leK {α : Type} (key : α → List Int) (a b : α) : Bool := !ltR (key b) (key a)
theorem RowE.le (g : GH) (a b : α) : leG g (enc a) (enc b) = leK key a b := by
  unfold leG leK
  rw [R.py, R.py, ltPy (R.row b) (R.row a)]
omit R in
theorem leK_total : TotalLe (leK key) where
  total a b := by
    unfold leK
    cases h : ltR (key b) (key a) with
    | false => simp
    | true => simp [ltR_asymm h]
  trans a b c := by
    unfold leK
    intro h1 h2
    simp only [Bool.not_eq_true'] at h1 h2 ⊢
    cases h : ltR (key c) (key a) with
    | false => rfl
    | true =>
      rcases ltR_tri (key b) (key a) with z | z | z
      · rw [z] at h1; cases h1
      · rw [← z] at h; rw [h] at h2; cases h2
      · rw [ltR_trans _ _ _ h z] at h2; cases h2
theorem RowE.sort {g : GH} {d : D} {xs : List α} {Q : D → GH → Prop} (h : seqV g d = some (xs.map enc)) (hl : xs.length ≤ 1000000) : wpo (fSortL [d] g) Q = Q (.rol ((sortL (leK key) xs).map enc)) g := by
  have ok : okSort g (xs.map enc) = true := by
    unfold okSort
    simp only [Bool.and_eq_true, decide_eq_true_eq, List.length_map]
    refine ⟨⟨⟨?_, ?_⟩, ?_⟩, hl⟩
    · rw [List.all_eq_true]
      intro d hd
      obtain ⟨a, _, rfl⟩ := List.mem_map.mp hd
      rw [toPy_fl 16 _ (flD_up _ _ _ (by omega) (R.fl a))]
      rfl
    · unfold sortable
      rw [Bool.or_eq_true]
      left
      rw [List.all_eq_true]
      intro p hp
      obtain ⟨d, hd, rfl⟩ := List.mem_map.mp hp
      obtain ⟨a, _, rfl⟩ := List.mem_map.mp hd
      rw [R.py]
      have h1 := R.row a
      have h2 := R.ne a
      cases h : enc a with
      | tup ds =>
        rw [h] at h1
        cases ds with
        | nil => simp [rowD, numsD] at h1; exact absurd h1 h2
        | cons d ds => rfl
      | _ => rw [h] at h1; simp [rowD] at h1
    · rw [List.all_eq_true]
      intro d hd
      rw [List.all_eq_true]
      intro e he
      obtain ⟨a, _, rfl⟩ := List.mem_map.mp hd
      obtain ⟨b, _, rfl⟩ := List.mem_map.mp he
      rw [R.py, R.py]
      exact alikeR (R.row a) (R.row b) (R.shp a b)
  unfold fSortL
  simp only [h]
  rw [if_pos ok, ← sortL_map (le := leK key) (le' := leG g) enc xs fun a _ b _ => (R.le g a b).symm]
  rfl
omit R in
theorem sortK_up {xs : List α} (inj : ∀ a b, key a = key b → a = b) (hn : xs.Nodup) : upK key (sortL (leK key) xs) := by
  have h1 := sortL_up (leK_total (key := key)) xs
  have h2 : (sortL (leK key) xs).Nodup := (sortL_perm xs).nodup_iff.mpr hn
  refine List.Pairwise.imp (fun {a b} z => ?_) (h1.and h2)
  obtain ⟨z1, z2⟩ := z
  unfold leK at z1
  simp only [Bool.not_eq_true'] at z1
  rcases ltR_tri (key a) (key b) with y | y | y
  · exact y
  · exact absurd (inj _ _ y) z2
  · rw [y] at z1; cases z1
end
section
variable {α : Type} {enc : α → D} {key : α → List Int} (R : RowE enc key) {Q : D → GH → Prop} {g : GH}
include R
theorem RowE.flR (xs : List α) : flD 16 (.rol (xs.map enc)) = true := R.fls (k := 15) (by omega) xs
theorem RowE.flT (xs : List α) : flD 16 (.tup (xs.map enc)) = true := R.fls (k := 15) (by omega) xs
theorem RowE.ne_canon (xs : List α) : wpo (opNe (.rol (xs.map enc)) (.rol (canonR (xs.map enc))) g) Q = Q (.bl (!decide (upK key xs))) g := by
  obtain ⟨ys, e, u, m⟩ := R.canon xs
  have hc := R.canon_eq xs
  rw [e] at hc
  rw [e, ne_fl (R.flR xs) (R.flR ys), nrm_rol, nrm_rol, R.nrs, R.nrs]
  congr 3
  rw [decide_eq_decide, D.rol.injEq, hc]
theorem RowE.eq_canon (xs : List α) : wpo (opEq (.rol (xs.map enc)) (.rol (canonR (xs.map enc))) g) Q = Q (.bl (decide (upK key xs))) g := by
  obtain ⟨ys, e, u, m⟩ := R.canon xs
  have hc := R.canon_eq xs
  rw [e] at hc
  rw [e, eq_fl (R.flR xs) (R.flR ys), nrm_rol, nrm_rol, R.nrs, R.nrs]
  congr 2
  rw [decide_eq_decide, D.rol.injEq, hc]
theorem RowE.map_inj (xs ys : List α) : xs.map enc = ys.map enc ↔ xs = ys := List.map_inj_right fun a b h => R.encInj a b h
theorem RowE.eq_rol [DecidableEq α] (xs ys : List α) : wpo (opEq (.rol (xs.map enc)) (.rol (ys.map enc)) g) Q = Q (.bl (decide (xs = ys))) g := by
  rw [eq_fl (R.flR xs) (R.flR ys), nrm_rol, nrm_rol, R.nrs, R.nrs]
  congr 2
  rw [decide_eq_decide, D.rol.injEq, R.map_inj]
theorem RowE.ne_rol [DecidableEq α] (xs ys : List α) : wpo (opNe (.rol (xs.map enc)) (.rol (ys.map enc)) g) Q = Q (.bl (!decide (xs = ys))) g := by
  rw [ne_fl (R.flR xs) (R.flR ys), nrm_rol, nrm_rol, R.nrs, R.nrs]
  congr 3
  rw [decide_eq_decide, D.rol.injEq, R.map_inj]
theorem RowE.eq_tup [DecidableEq α] (xs ys : List α) : wpo (opEq (.tup (xs.map enc)) (.tup (ys.map enc)) g) Q = Q (.bl (decide (xs = ys))) g := by
  rw [eq_fl (R.flT xs) (R.flT ys), nrm_tup, nrm_tup, R.nrs, R.nrs]
  congr 2
  rw [decide_eq_decide, D.tup.injEq, R.map_inj]
theorem RowE.ne_tup [DecidableEq α] (xs ys : List α) : wpo (opNe (.tup (xs.map enc)) (.tup (ys.map enc)) g) Q = Q (.bl (!decide (xs = ys))) g := by
  rw [ne_fl (R.flT xs) (R.flT ys), nrm_tup, nrm_tup, R.nrs, R.nrs]
  congr 3
  rw [decide_eq_decide, D.tup.injEq, R.map_inj]
theorem RowE.eq_one [DecidableEq α] (a b : α) : wpo (opEq (enc a) (enc b) g) Q = Q (.bl (decide (a = b))) g := by
  rw [eq_fl (flD_up _ _ _ (by omega) (R.fl a)) (flD_up _ _ _ (by omega) (R.fl b)), R.nr, R.nr]
  congr 2
  rw [decide_eq_decide]
  exact ⟨R.encInj a b, fun h => by rw [h]⟩
theorem RowE.ne_one [DecidableEq α] (a b : α) : wpo (opNe (enc a) (enc b) g) Q = Q (.bl (!decide (a = b))) g := by
  rw [ne_fl (flD_up _ _ _ (by omega) (R.fl a)) (flD_up _ _ _ (by omega) (R.fl b)), R.nr, R.nr]
  congr 3
  rw [decide_eq_decide]
  exact ⟨R.encInj a b, fun h => by rw [h]⟩
end
/-- no test -/
theorem comp_mapT {α β : Type} {enc : α → D} {t : T3} {elt : EV} {ρ : Rho} {W : Exc → GH → Prop} {g : GH} (enc2 : β → D) (f : α → β) (xs : List α)
    (hs : ∀ x ∈ xs, ∃ ρ', t.set (enc x) ρ = some ρ' ∧ wp (elt ρ' g) (fun y g2 => y = enc2 (f x) ∧ g2 = g) F0)
    {QL : List D → GH → Prop} (hq : QL ((xs.map f).map enc2) g) : wp (compL [] t tYes3 elt ρ (xs.map enc) g) QL W := by
  refine comp_map (fun _ => true) (fun x => enc2 (f x)) xs (fun x hx => ?_) ?_
  · obtain ⟨ρ', e, h⟩ := hs x hx
    exact ⟨ρ', e, by simpa using h⟩
  · have e : ((xs.filter fun _ => true).map fun x => enc2 (f x)) = (xs.map f).map enc2 := by
      rw [List.filter_eq_self.mpr (fun _ _ => rfl), List.map_map]
      rfl
    rw [e]
    exact hq
theorem wps_items {step : D → SV} {k : Kt} (xs : List D) (I : List D → Rho → GH → Prop)
    (hs : ∀ done x rest ρ g, xs = done ++ x :: rest → I done ρ g → wps (step x ρ g) { k with nx := I (done ++ [x]), ct := I (done ++ [x]), bk := k.nx }) (hn : ∀ ρ g, I xs ρ g → k.nx ρ g)
    {ρ : Rho} {g : GH} (h : I [] ρ g) : wps (forL [] step xs ρ g) k := by
  have := wps_list (enc := fun d : D => d) xs I hs hn h
  simpa using this
@[simp] theorem cut_12 (a b : D) : cutD [a, b] none (some 1) = [a] := rfl
@[simp] theorem cut_23 (a b c : D) : cutD [a, b, c] none (some 2) = [a, b] := rfl
end L3

/-! L3y: more walks; sums. -/
namespace L3
open PySem L2

theorem comp_mapF {α β : Type} {enc : α → D} {t : T3} {test : TV} {elt : EV} {ρ : Rho} {W : Exc → GH → Prop} {g : GH} (enc2 : β → D) (p : α → Bool) (f : α → β) (xs : List α)
    (hs : ∀ x ∈ xs, ∃ ρ', t.set (enc x) ρ = some ρ' ∧ wp (test ρ' g) (fun b g1 => b = p x ∧ g1 = g ∧ (p x = true → wp (elt ρ' g) (fun y g2 => y = enc2 (f x) ∧ g2 = g) F0)) F0)
    {QL : List D → GH → Prop} (hq : QL (((xs.filter p).map f).map enc2) g) : wp (compL [] t test elt ρ (xs.map enc) g) QL W := by
  refine comp_map p (fun x => enc2 (f x)) xs hs ?_
  have e : ((xs.filter p).map fun x => enc2 (f x)) = ((xs.filter p).map f).map enc2 := by
    rw [List.map_map]
    rfl
  rw [e]
  exact hq
theorem wps_listD {α : Type} {enc : α → D} {deps : Deps} {step : D → SV} {k : Kt} (xs : List α) (I : List α → Rho → GH → Prop) (hd : ∀ done ρ g, I done ρ g → depsOk g deps = true)
    (hs : ∀ done x rest ρ g, xs = done ++ x :: rest → I done ρ g → wps (step (enc x) ρ g) { k with nx := I (done ++ [x]), ct := I (done ++ [x]), bk := k.nx }) (hn : ∀ ρ g, I xs ρ g → k.nx ρ g)
    {ρ : Rho} {g : GH} (h : I [] ρ g) : wps (forL deps step (xs.map enc) ρ g) k := by
  have key : ∀ (rest done : List α) (ρ : Rho) (g : GH), xs = done ++ rest → I done ρ g → wps (forL deps step (rest.map enc) ρ g) k := by
    intro rest
    induction rest with
    | nil =>
      intro done ρ g e h
      unfold forL
      rw [List.map_nil]
      simp only
      rw [if_pos (hd _ _ _ h)]
      rw [List.append_nil] at e
      rw [← e] at h
      exact hn ρ g h
    | cons x rest ih =>
      intro done ρ g e h
      have h1 := hs done x rest ρ g e h
      rw [List.map_cons]
      unfold forL
      rw [if_pos (hd _ _ _ h)]
      have ih' := fun ρ' g' hh => ih (done ++ [x]) ρ' g' (by simp [e]) hh
      cases e2 : step (enc x) ρ g with
      | nx ρ' g' => rw [e2] at h1; exact ih' ρ' g' h1
      | ct ρ' g' => rw [e2] at h1; exact ih' ρ' g' h1
      | bk ρ' g' => rw [e2] at h1; exact h1
      | rt d g' => rw [e2] at h1; exact h1
      | er x ρ' g' => rw [e2] at h1; exact h1
      | bad => rw [e2] at h1; exact h1
  exact key xs [] ρ g rfl h
/-- ranges from 0, counted in natural numbers -/
theorem wps_upto {m : Int} {step : D → SV} {k : Kt} (N : Nat) (hN : m = N) (I : Nat → Rho → GH → Prop)
    (hs : ∀ i ρ g, i < N → I i ρ g → wps (step (.int i) ρ g) { k with nx := I (i + 1), ct := I (i + 1), bk := k.nx }) (hn : ∀ ρ g, I N ρ g → k.nx ρ g) {ρ : Rho} {g : GH} (h : I 0 ρ g) : wps (forL [] step (rangeD 0 m) ρ g) k := by
  subst hN
  refine wps_rng (fun i ρ g => I i.toNat ρ g) (by omega) (fun i ρ g h0 h1 hi => ?_) (fun ρ g h => hn ρ g (by simpa using h)) ρ g (by simpa using h)
  obtain ⟨j, rfl⟩ := Int.eq_ofNat_of_zero_le h0
  have := hs j ρ g (by omega) (by simpa using hi)
  have e : ((j : Int) + 1).toNat = j + 1 := by omega
  rw [e]
  exact this
/-! ### sums -/
def sumN (n : Nat) (f : Nat → Int) : Int := match n with
  | 0 => 0
  | n + 1 => sumN n f + f n
theorem sumN_congr {f f' : Nat → Int} : ∀ (n : Nat), (∀ i, i < n → f i = f' i) → sumN n f = sumN n f'
  | 0, _ => rfl
  | n + 1, h => by rw [sumN, sumN, sumN_congr n fun i hi => h i (by omega), h n (by omega)]
theorem sumN_add (f f' : Nat → Int) : ∀ (n : Nat), sumN n (fun i => f i + f' i) = sumN n f + sumN n f'
  | 0 => rfl
  | n + 1 => by rw [sumN, sumN, sumN, sumN_add f f' n]; omega
theorem sumN_zero : ∀ (n : Nat), sumN n (fun _ => 0) = 0
  | 0 => rfl
  | n + 1 => by rw [sumN, sumN_zero n]; rfl
theorem sumN_swap (m : Nat) (f : Nat → Nat → Int) : ∀ (n : Nat), sumN n (fun i => sumN m (f i)) = sumN m (fun j => sumN n (fun i => f i j))
  | 0 => by simp only [sumN]; exact (sumN_zero m).symm
  | n + 1 => by simp only [sumN]; rw [sumN_swap m f n, sumN_add]
theorem atI_map {α : Type} {enc : α → D} {xs : List α} {n : Nat} {x : α} (h : xs[n]? = some x) : atI (xs.map enc) (n : Int) = some (enc x) := by
  obtain ⟨hl, e⟩ := List.getElem?_eq_some_iff.mp h
  rw [atI_nat (n := n) rfl (by simpa using hl)]
  simp [e]
end L3

/-! L3z: ranges that begin anywhere, rows compared, last items. -/
namespace L3
open PySem PySem.Spec PyProof.Rows L2 PySem.W

theorem rangeD_nat (N : Nat) : rangeD 0 (N : Int) = (List.range N).map (fun k : Nat => D.int (k : Int)) := by
  simp [rangeD]
theorem wps_from {a b : Int} {step : D → SV} {k : Kt} (N : Nat) (hN : b = a + N) (I : Nat → Rho → GH → Prop)
    (hs : ∀ i ρ g, i < N → I i ρ g → wps (step (.int (a + i)) ρ g) { k with nx := I (i + 1), ct := I (i + 1), bk := k.nx }) (hn : ∀ ρ g, I N ρ g → k.nx ρ g) {ρ : Rho} {g : GH} (h : I 0 ρ g) : wps (forL [] step (rangeD a b) ρ g) k := by
  subst hN
  refine wps_rng (fun i ρ g => I (i - a).toNat ρ g) (by omega) (fun i ρ g h0 h1 hi => ?_) (fun ρ g h => hn ρ g ?_) ρ g ?_
  · obtain ⟨j, hj⟩ := Int.eq_ofNat_of_zero_le (show 0 ≤ i - a by omega)
    have e0 : i = a + j := by omega
    subst e0
    have e1 : (a + (j : Int) - a).toNat = j := by omega
    have e2 : (a + (j : Int) + 1 - a).toNat = j + 1 := by omega
    rw [e1] at hi
    rw [e2]
    exact hs j ρ g (by omega) hi
  · have e1 : (a + (N : Int) - a).toNat = N := by omega
    rwa [e1] at h
  · have e1 : (a - a).toNat = 0 := by omega
    rw [e1]
    exact h
theorem comp_upto {β : Type} {t : T3} {elt : EV} {ρ : Rho} {W : Exc → GH → Prop} {g : GH} (enc2 : β → D) (f : Nat → β) (N : Nat)
    (hs : ∀ x, x < N → ∃ ρ', t.set (.int x) ρ = some ρ' ∧ wp (elt ρ' g) (fun y g2 => y = enc2 (f x) ∧ g2 = g) F0)
    {QL : List D → GH → Prop} (hq : QL (((List.range N).map f).map enc2) g) : wp (compL [] t tYes3 elt ρ (rangeD 0 (N : Int)) g) QL W := by
  rw [rangeD_nat]
  exact comp_mapT enc2 f (List.range N) (fun x hx => hs x (List.mem_range.mp hx)) hq
theorem atI_last {α : Type} {enc : α → D} {xs : List α} {x : α} : atI ((xs ++ [x]).map enc) (-1) = some (enc x) := by
  unfold atI ixN
  simp only [List.length_map, List.length_append, List.length_cons, List.length_nil]
  rw [if_neg (by omega), if_pos (by omega)]
  have e : (-1 + ((xs.length + (0 + 1) : Nat) : Int)).toNat = xs.length := by omega
  have e2 : (((xs.length + (0 + 1) : Nat) : Int) + -1).toNat = xs.length := by omega
  first | rw [e] | rw [e2]
  simp
section
variable {α : Type} {enc : α → D} {key : α → List Int} (R : RowE enc key) {Q : D → GH → Prop} {g : GH}
include R
theorem RowE.lt (a b : α) : wpo (opLt (enc a) (enc b) g) Q = Q (.bl (ltR (key a) (key b))) g := by
  obtain ⟨as, ea⟩ := R.tup a
  obtain ⟨bs, eb⟩ := R.tup b
  have e1 : toPy g 16 (enc a) = some (pyR (enc a)) := by
    have := R.py g a
    unfold pyG at this
    rw [toPy_fl 16 _ (flD_up _ _ _ (by omega) (R.fl a))] at this ⊢
    exact congrArg some this
  have e2 : toPy g 16 (enc b) = some (pyR (enc b)) := by
    have := R.py g b
    unfold pyG at this
    rw [toPy_fl 16 _ (flD_up _ _ _ (by omega) (R.fl b))] at this ⊢
    exact congrArg some this
  have e3 := alikeR (R.row a) (R.row b) (R.shp a b)
  have e4 := ltPy (R.row a) (R.row b)
  rw [ea] at e1 e3 e4 ⊢
  rw [eb] at e2 e3 e4 ⊢
  simp only [opLt, e1, e2]
  rw [if_pos e3, e4]
  rfl
omit R in
/-- the signs of a list of rows -/
def toksI {α : Type} (key : α → List Int) : List α → List Int
  | [] => [0]
  | a :: as => 1 :: ((key a).flatMap (fun i => [1, i]) ++ 0 :: toksI key as)
omit R in
theorem toks_row : ∀ {ds : List D} {k : List Int}, numsD ds = some k → keyToksAll (ds.map pyN) = (k.flatMap (fun i => [1, i]) ++ [0]).map Sum.inl
  | [], k, h => by
    cases h
    simp [keyToksAll]
  | d :: ds, k, h => by
    simp only [numsD, Option.bind_eq_some_iff, Option.map_eq_some_iff] at h
    obtain ⟨i, h1, is, h2, rfl⟩ := h
    rw [List.map_cons, keyToksAll, tokN h1, toks_row h2]
    simp
theorem RowE.toks : ∀ as : List α, keyToksAll (as.map fun a => pyR (enc a)) = (toksI key as).map Sum.inl
  | [] => by simp [keyToksAll, toksI]
  | a :: as => by
    rw [List.map_cons, keyToksAll, RowE.toks as]
    have e : keyToks (pyR (enc a)) = ((key a).flatMap (fun i => [1, i]) ++ [0]).map Sum.inl := by
      have h := R.row a
      obtain ⟨ds, e⟩ := R.tup a
      rw [e] at h ⊢
      show keyToks (.tuple (ds.map pyN)) = _
      rw [keyToks]
      exact toks_row h
    rw [e]
    simp [toksI]
omit R in
theorem lex_ltR : ∀ as bs : List Int, PyProof.Rows.lexLt PyProof.Rows.itemOrd ((as.map Sum.inl : List (Int ⊕ List Nat))) (bs.map Sum.inl) = ltR as bs
  | [], [] => rfl
  | [], _ :: _ => rfl
  | _ :: _, [] => rfl
  | a :: as, b :: bs => by
    rw [List.map_cons, List.map_cons, lexN, lex_ltR as bs]
    have e : ltR (a :: as) (b :: bs) = (decide (a < b) || (decide (a = b) && ltR as bs)) := by rw [ltR]
    rw [e]
    by_cases h1 : a < b
    · simp [h1]
    · by_cases h2 : a = b
      · simp [h2]
      · have h3 : b < a := by omega
        simp [h1, h2, h3]
theorem RowE.alikeAll : ∀ as bs : List α, PySem.W.alikeAll (as.map fun a => pyR (enc a)) (bs.map fun a => pyR (enc a)) = true
  | [], _ => by simp [PySem.W.alikeAll]
  | _ :: _, [] => by simp [PySem.W.alikeAll]
  | a :: as, b :: bs => by
    rw [List.map_cons, List.map_cons, PySem.W.alikeAll, alikeR (R.row a) (R.row b) (R.shp a b), RowE.alikeAll as bs]
    rfl
theorem RowE.pyT (as : List α) : toPy g 16 (.tup (as.map enc)) = some (.tuple (as.map fun a => pyR (enc a))) := by
  rw [toPy_fl 16 _ (R.flT as), pyD, pyDs_map, List.map_map]
  congr 2
  apply List.map_congr_left
  intro a _
  have := R.py g a
  unfold pyG at this
  rw [toPy_fl 16 _ (flD_up _ _ _ (by omega) (R.fl a))] at this
  exact this
theorem RowE.ltT (as bs : List α) : wpo (opLt (.tup (as.map enc)) (.tup (bs.map enc)) g) Q = Q (.bl (ltR (toksI key as) (toksI key bs))) g := by
  have e1 : PySem.W.alike (.tuple (as.map fun a => pyR (enc a))) (.tuple (bs.map fun a => pyR (enc a))) = true := by
    rw [PySem.W.alike]
    exact R.alikeAll as bs
  have e2 : PySem.W.dataLt (.tuple (as.map fun a => pyR (enc a))) (.tuple (bs.map fun a => pyR (enc a))) = ltR (toksI key as) (toksI key bs) := by
    unfold PySem.W.dataLt
    rw [keyToks, keyToks, R.toks, R.toks, lex_ltR]
  simp only [opLt, R.pyT]
  rw [if_pos e1, e2]
  rfl
end
end L3

/-! L4a: pairs walked (zip), the keys of a dict sorted. -/
namespace L3
open PySem PySem.Spec PyProof.Rows L2 PySem.W

/-! ### a comprehension within a comprehension -/
theorem blkOk_in {N : List Str} {sc0 scope scope2 : Scope} {own : List (Str × Nat)} {cl : List (Str × Addr)} {C : Addr} {env : Env} (e : env.scope = sc0) (h : blkC N (relS scope sc0) scope2 own = true) : BlkOk N (compEnvC scope cl C env).scope scope2 own := by
  have e2 : (compEnvC scope cl C env).scope = relS scope sc0 := by rw [← e]; rfl
  rw [e2]
  exact blkOk_by h
/-! ### zip of two tuples, or of two lists -/
def zipD (xs ys : List D) : List D := List.zipWith (fun a b => .tup [a, b]) xs ys
def iZip2 (a b : EV) : IV := fun ρ g => (a ρ g).bind fun d g1 => (b ρ g1).bind fun e g2 => match d, e with
  | .tup xs, .tup ys => .ok ⟨[], zipD xs ys⟩ g2
  | .rol xs, .rol ys => .ok ⟨[], zipD xs ys⟩ g2
  | _, _ => .bad
section
variable {X : Cx} {Z : Row} {W : WX} {pos : Pos} {tg a b : Expr} {ea eb : EV}
theorem zipD_get {xs ys : List D} {i : Nat} {d e : D} (h1 : xs[i]? = some d) (h2 : ys[i]? = some e) : (zipD xs ys)[i]? = some (.tup [d, e]) := by
  unfold zipD
  rw [List.getElem?_zipWith, h1, h2]
theorem zip_item {K : KW} {T : List (Addr × Str)} {m : List Addr} {g : GH} {H : Hp} {i : Nat} {T0 : Addr} {w1 w2 : V} {ds es : List D} {xs ys : List V} (s : S K T m g H) (r1 : DReps K m H ds xs) (r2 : DReps K m H es ys) (e1 : xs[i]? = some w1) (e2 : ys[i]? = some w2) (hT : H T0 = none) :
    ∃ d, (zipD ds es)[i]? = some d ∧ Ext m H m (upd H T0 (.tup [w1, w2])) ∧ S K T m g (upd H T0 (.tup [w1, w2])) ∧ DRep K m (upd H T0 (.tup [w1, w2])) d (.ref T0) := by
  obtain ⟨d, h5, h6⟩ := r1.get' e1
  obtain ⟨d2, h7, h8⟩ := r2.get' e2
  obtain ⟨x2, s2⟩ := s.laid (u := .tup [w1, w2]) hT
  refine ⟨_, zipD_get h5 h7, x2, s2, ?_⟩
  rw [DRep]
  refine ⟨T0, [w1, w2], rfl, .inl (.inl upd_same), ?_⟩
  rw [DReps]
  refine ⟨_, _, rfl, h6.mono x2, ?_⟩
  rw [DReps]
  exact ⟨_, _, rfl, h8.mono x2, by rw [DReps]⟩
theorem jrep_zipT {K : KW} {T : List (Addr × Str)} {m0 : List Addr} {H0 : Hp} {a0 b0 : Addr} {ds es : List D} {xs ys : List V} (h1 : SqT K.K H0 a0 xs) (h2 : SqT K.K H0 b0 ys) (r1 : DReps K m0 H0 ds xs) (r2 : DReps K m0 H0 es ys) : JRep K T m0 H0 ⟨[], zipD ds es⟩ (RZ.ItzT K.K a0 b0) := by
  intro i m g H e s hd
  have q1 := e.rd (K := K) h1
  have q2 := e.rd (K := K) h2
  have l1 := r1.length
  have l2 := r2.length
  refine ⟨fun hi => ⟨xs, ys, q1, q2, ?_⟩, fun hi => ?_⟩
  · rw [hi]
    show xs.length ≤ (zipD ds es).length ∨ ys.length ≤ (zipD ds es).length
    simp only [zipD, List.length_zipWith]
    omega
  · have hi' : i < (zipD ds es).length := hi
    simp only [zipD, List.length_zipWith] at hi'
    refine ⟨⟨xs, ys, xs[i]'(by omega), ys[i]'(by omega), q1, q2, by simp, by simp⟩, fun x H' y => ?_⟩
    obtain ⟨T0, w1, w2, rfl, hT, rfl, y1, y2⟩ := y
    exact zip_item s (DReps.mono e _ _ r1) (DReps.mono e _ _ r2) (y1 xs q1) (y2 ys q2) hT
theorem jrep_zipL {K : KW} {T : List (Addr × Str)} {m0 : List Addr} {H0 : Hp} {a0 b0 : Addr} {ds es : List D} {xs ys : List V} (h1 : RoL H0 a0 xs) (h2 : RoL H0 b0 ys) (r1 : DReps K m0 H0 ds xs) (r2 : DReps K m0 H0 es ys) : JRep K T m0 H0 ⟨[], zipD ds es⟩ (Itz K.K a0 b0) := by
  intro i m g H e s hd
  have q1 := (e.ro h1).sql (K := K.K)
  have q2 := (e.ro h2).sql (K := K.K)
  have l1 := r1.length
  have l2 := r2.length
  refine ⟨fun hi => ⟨xs, ys, q1, q2, ?_⟩, fun hi => ?_⟩
  · rw [hi]
    show xs.length ≤ (zipD ds es).length ∨ ys.length ≤ (zipD ds es).length
    simp only [zipD, List.length_zipWith]
    omega
  · have hi' : i < (zipD ds es).length := hi
    simp only [zipD, List.length_zipWith] at hi'
    refine ⟨⟨xs, ys, xs[i]'(by omega), ys[i]'(by omega), q1, q2, by simp, by simp⟩, fun x H' y => ?_⟩
    obtain ⟨T0, w1, w2, rfl, hT, rfl, y1, y2⟩ := y
    exact zip_item s (DReps.mono e _ _ r1) (DReps.mono e _ _ r2) (y1 xs q1) (y2 ys q2) hT
theorem pi3_zip {e e2 : Expr} {p : Pos} {elts : List Expr} {kk : Nat} {tpos : Pos} (hK : Z.K = X.kw) (hg : Gl X "zip") (hm : X.mg "zip" = none) (ha : PE X e (tE Z ea W)) (hb : PE X e2 (tE Z eb W))
    (hs : starEach [e, e2] X.env = (false, eval e X.env) :: starEach [e2] X.env := by rfl) (hs2 : starEach [e2] X.env = (false, eval e2 X.env) :: starEach [] X.env := by rfl) (hpl : (backTo pos (starEach [e2] X.env)).any (·.1) = false := by rfl) :
    PI X (.Tuple elts kk tpos) (.Call (.Name "zip" p) [e, e2] [] pos) (tI3 Z (iZip2 ea eb) W) := by
  obtain ⟨K, T, ec⟩ := Z
  obtain rfl : K = X.kw := hK
  refine PI.imp (RZ.pi_zipA hg hm (pa3_cons (hx := hs) ha (pa3_cons (hx := hs2) hb pa3_nil)) hs hpl) fun σ H R ⟨m, g, ρ, s, r, h⟩ => ⟨m, g, ρ, s, r, ?_⟩
  have h' : Post X.kw T (fun m H => JRep X.kw T m H) (iZip2 ea eb ρ g) m H R (WofX ⟨X.kw, T, ec⟩ W σ) := h
  unfold iZip2 at h'
  unfold aCons aNil
  cases e1 : ea ρ g with
  | bad => rw [e1] at h'; exact h'.elim
  | er x g1 => rw [e1] at h'; exact h'
  | ok d g1 =>
    rw [e1] at h'
    simp only [Res.bind_ok] at h' ⊢
    cases e2 : eb ρ g1 with
    | bad => rw [e2] at h'; exact h'.elim
    | er x g1 => rw [e2] at h'; exact h'
    | ok d2 g2 =>
      rw [e2] at h'
      simp only [Res.bind_ok] at h' ⊢
      split at h'
      · rename_i ds es
        intro m1 H1 vs x1 s1 r1
        obtain ⟨v, w, rfl, r2, r3⟩ := reps2 r1
        rw [DRep] at r2 r3
        obtain ⟨a0, xs, rfl, q1, q2⟩ := r2
        obtain ⟨b0, ys, rfl, q3, q4⟩ := r3
        exact ⟨a0, b0, xs, ys, rfl, .inr ⟨q1, q3, h' m1 H1 (RZ.ItzT X.K a0 b0) x1 s1 (jrep_zipT (K := X.kw) q1 q3 q2 q4)⟩⟩
      · rename_i ds es
        intro m1 H1 vs x1 s1 r1
        obtain ⟨v, w, rfl, r2, r3⟩ := reps2 r1
        rw [DRep] at r2 r3
        obtain ⟨a0, xs, rfl, q1, q2⟩ := r2
        obtain ⟨b0, ys, rfl, q3, q4⟩ := r3
        exact ⟨a0, b0, xs, ys, rfl, .inl ⟨q1.sql, q3.sql, h' m1 H1 (Itz X.K a0 b0) x1 s1 (jrep_zipL (K := X.kw) q1 q3 q2 q4)⟩⟩
      · exact h'.elim
end
section
variable {Q : Src → GH → Prop} {W : Exc → GH → Prop} {ρ : Rho} {g : GH}
@[simp] theorem wp_iZip2 (a b : EV) : wp (iZip2 a b ρ g) Q W = wp (a ρ g) (fun d g1 => wp (b ρ g1) (fun e g2 => ∃ xs ys, (d = .tup xs ∧ e = .tup ys ∨ d = .rol xs ∧ e = .rol ys) ∧ Q ⟨[], zipD xs ys⟩ g2) W) W := by
  simp only [iZip2, wp_bind]
  congr 1
  funext d g1
  congr 1
  funext e g2
  cases d <;> cases e <;> simp
  all_goals exact ⟨fun h => ⟨_, _, ⟨rfl, rfl⟩, h⟩, fun ⟨_, _, ⟨e1, e2⟩, h⟩ => by subst e1 e2; exact h⟩
end

/-! ### sorted(d) -/
def fSortD : FN := fun xs g => match xs with
  | [d] => match dicOf g d with
    | some kvs => if okSort g (kvs.map (·.1)) then some (.rol (sortL (leG g) (kvs.map (·.1))), g) else none
    | none => none
  | _ => none
section
variable {prog : Program} {w : World} {A : Around} {E : Value → Shared → Prop} {s : Shared} {T : String} {r d : Addr} {n : Nat} {P : Nat → Value → Prop} {OK : Heap → Prop}
/-- what a source yields, in a list that only the machine knows -/
theorem collect_src {R : List Value → Shared → Prop} (K : PySem.W.KdlSrc prog w T r d n P OK) (hh : A.handled = none) (hok : OK s.heap) (hn : n ≤ sizeLine)
    (hR : ∀ (h2 : Heap) (tk : Nat) (acc : Array Value), (∀ b o, s.heap.get? b = some o → h2.get? b = some o) → s.heap.objs.size ≤ h2.objs.size → ItemsOf P acc n → R acc.toList { s with heap := h2, toks := tk }) :
    wpAny (model prog w) A (collect (.ref r)) R E s := by
  obtain ⟨lr, ld⟩ := K.there _ hok
  have old : ∀ b o, s.heap.get? b = some o → (s.heap.push (seqObj "list" #[] 0)).get? b = some o := fun b o e => Heap.get?_push_of_some _ e
  unfold collect
  refine wpAny_bind (wpAny_runValue (codeAny_builtin entry_proto_collect' ?_))
  show wpAny _ _ (do again (.builtin "list.__iadd__" ⟨[← newList [], .ref r], []⟩)) _ _ s
  refine wpAny_bind (wpAny_newList (wpAny_pure ⟨Code.quiet_builtin _ (by decide +kernel), codeAny_builtin entry_list_iadd' ?_⟩))
  refine wpAny_mono (PySem.W.kdl_extend (A := A) (s := { s with heap := s.heap.push (seqObj "list" #[] 0) }) (c₀ := 0)
    (R := fun q s2 => ∃ (h2 : Heap) (tk : Nat) (acc : Array Value) (c : Nat), q = .ok (.ret (.ref s.heap.objs.size)) ∧ s2 = { s with heap := h2, toks := tk } ∧ (∀ b o, s.heap.get? b = some o → h2.get? b = some o) ∧ h2.get? s.heap.objs.size = some (seqObj "list" acc c) ∧ ItemsOf P acc n)
    K hh (K.keep _ _ hok fun b _ o e => old b o e) s.heap.objs.size (Nat.ne_of_gt lr) (Nat.ne_of_gt ld) (.ref s.heap.objs.size) (Heap.get?_push_size _ rfl)
    (fun h2 tk acc c kp g2 it => ⟨h2, tk, acc, c, rfl, rfl, fun b o e => kp b o (Nat.ne_of_lt (Heap.lt_size e)) (old b o e), g2, it⟩) hn) (fun fin s2 x => ?_) fun e s2 x => ?_
  · cases fin with
    | done f =>
      obtain ⟨h2, tk, acc, c, e, rfl, kp, g2, it⟩ := x
      cases e
      show wpAny (model prog w) A (do
          let o ← load s.heap.objs.size
          match o.data with
          | .seq xs _ => pure xs.toList
          | _ => unsupported "internal:collect") R E _
      refine wpAny_bind (wpAny_load g2 ?_)
      exact wpAny_pure (hR h2 tk acc kp (Nat.le_of_lt (Heap.lt_size g2)) it)
    | again c1 =>
      refine ⟨x.1, codeAny_mono x.2 fun q s2 y => ?_⟩
      obtain ⟨h2, tk, acc, c, rfl, rfl, kp, g2, it⟩ := y
      show wpAny (model prog w) A (do
          let o ← load s.heap.objs.size
          match o.data with
          | .seq xs _ => pure xs.toList
          | _ => unsupported "internal:collect") R E _
      refine wpAny_bind (wpAny_load g2 ?_)
      exact wpAny_pure (hR h2 tk acc kp (Nat.le_of_lt (Heap.lt_size g2)) it)
  · obtain ⟨_, _, _, _, z, _⟩ := x
    cases z
/-- the keys of a dict whose keys are nested tuples, one by one -/
theorem walks_keysN {o : Obj} {es : Array DictEntry} {ep : Nat} {xs : List (NestedKey × Addr × Value)} (hh : A.handled = none) (it : Addr) (hd : o.data = .dict es ep) (he : es.toList = xs.map (entryOfKey (nestedKind prog w))) (hne : d ≠ it) :
    Walks prog w A it [it, d] [it] xs.length (fun i v => ∃ k b x, xs[i]? = some (k, b, x) ∧ v = .ref b) (fun i h => h.IsKeyIter it d i xs.length ep ∧ h.get? d = some o) where
  sub := fun b hb => by simp at hb; simp [hb]
  frame := fun _ _ _ st hk => ⟨st.1.at fun o e => hk it (by simp) o e, hk d (by simp) _ st.2⟩
  item := fun i s Q E hi st hQ => by
    have szl : es.size = xs.length := by have := congrArg List.length he; simpa using this
    have ent : es[i]? = some (entryOfKey (nestedKind prog w) xs[i]) := by rw [← Array.getElem?_toList, he, List.getElem?_map, List.getElem?_eq_getElem hi]; rfl
    refine next_key_item st.1 st.2 hd szl ent fun h2 st2 sb => ?_
    refine hQ _ h2 s.toks ⟨xs[i].1, xs[i].2.1, xs[i].2.2, List.getElem?_eq_getElem hi, rfl⟩ ⟨st2, (sb.2 d hne).trans st.2⟩ fun b o hb e => (sb.2 b (by simpa using hb)).trans e
  done := fun s Q E st hQ => by
    have szl : es.size = xs.length := by have := congrArg List.length he; simpa using this
    exact next_key_end hh st.1 st.2 hd szl (Nat.le_refl _) fun h2 eb => hQ h2 s.toks fun b o hb e => eb b o (by simpa using hb) e
  self := fun i s Q E st h => by
    refine wpAny_pyIter_slot st.1.typeIs F.slot_dict_keyiterator_iter (wpAny_call_entry F.slot_dict_keyiterator_iter st.1.typeIs F.entry_dict_keyiterator_iter ?_ (F.args_dict_keyiterator_iter_1 _))
    show wpAny _ _ (ret (.ref it)) _ _ s
    exact wpAny_pure ⟨_, rfl, "dict_keyiterator", _, st.1.typeIs, F.slot_dict_keyiterator_next.lookup, h⟩
theorem src_keysN {o : Obj} {es : Array DictEntry} {ep : Nat} {xs : List (NestedKey × Addr × Value)} (lo : (d == sysModules) = false) (hc : o.ExactDict) (hd : o.data = .dict es ep) (he : es.toList = xs.map (entryOfKey (nestedKind prog w))) :
    PySem.W.KdlSrc prog w "dict" d d xs.length (fun i v => ∃ k b x, xs[i]? = some (k, b, x) ∧ v = .ref b) (fun h => h.get? d = some o) where
  type := fun _ hm => ⟨o, hm, hc.1⟩
  there := fun _ hm => ⟨Heap.lt_size hm, Heap.lt_size hm⟩
  keep := fun _ _ hm hk => hk d (.inl rfl) _ hm
  notList := by decide
  notTuple := by decide
  hint := fun _ _ _ _ hm hq => PySem.W.kdl_hint_dict ⟨o, hm, hc.1⟩ hq
  iter := fun A s hh hm => by
    have szl : es.size = xs.length := by have := congrArg List.length he; simpa using this
    refine ⟨_, _, fun _ _ hq => iter_keys lo hm hc hd hq, walks_keysN hh _ hd he (Nat.ne_of_lt (Heap.lt_size hm)), ⟨_, Heap.get?_push_size _ rfl, rfl, ?_⟩, Heap.get?_push_of_some _ hm⟩
    rw [szl]
    rfl
end
theorem pair_refs {K : KW} {m : List Addr} {H : Hp} : ∀ {kvs : List (D × D)} {xs : List (NestedKey × Addr × Value)}, PairD K m H kvs xs → DReps K m H (kvs.map (·.1)) (xs.map fun x => V.ref x.2.1)
  | [], xs, h => by
    have : xs = [] := h
    subst this
    show DReps _ _ _ [] []
    rw [DReps]
  | (k, d) :: kvs, xs, ⟨key, b, v, vv, r, e1, h1, h2, h3, h4, h5, h6⟩ => by
    subst e1
    show DReps _ _ _ (k :: kvs.map (·.1)) (V.ref b :: r.map fun x => V.ref x.2.1)
    rw [DReps]
    exact ⟨_, _, rfl, h3, pair_refs h6⟩
theorem vals_refs : ∀ {xs : List (NestedKey × Addr × Value)} {acc : List Value}, acc.length = xs.length → (∀ (j : Nat) (v : Value), acc[j]? = some v → ∃ k b x, xs[j]? = some (k, b, x) ∧ v = .ref b) → Vals (xs.map fun x => V.ref x.2.1) acc
  | [], [], _, _ => .nil
  | [], _ :: _, h, _ => by simp at h
  | _ :: _, [], h, _ => by simp at h
  | x :: xs, v :: acc, h, k => by
    obtain ⟨k0, b, y, e, rfl⟩ := k 0 v rfl
    simp at e
    subst e
    exact .cons rfl (vals_refs (by simpa using h) fun j u hu => by simpa using k (j + 1) u (by simpa using hu))
section
variable {X : Cx} {Z : Row}
theorem c_sortD (hK : Z.K = X.kw) (hc : X.calm = true) (hu : X.A.units + 65 < cLine) : CallR X (.builtin "sorted") (rN Z fSortD) := by
  obtain ⟨K, T, ec⟩ := Z
  obtain rfl : K = X.kw := hK
  intro pins st σ H xs us Q I rx ⟨m, g, ds, s, hd, h⟩
  unfold fSortD at h
  split at h
  · rename_i d
    obtain ⟨v, rfl, h1⟩ := reps1 hd
    split at h
    · rename_i kvs e0
      split at h
      · rename_i hok
        simp only [okSort, Bool.and_eq_true, decide_eq_true_eq] at hok
        obtain ⟨⟨⟨ok1, ok2⟩, ok3⟩, ok4⟩ := hok
        obtain ⟨a, xs, rfl, h4, h5, h6, h7, h8⟩ := dic_at s h1 e0
        obtain ⟨o, es, ep, g1, g2, g3, g4, _⟩ := dic_full I h4 h5
        have hr := pair_refs h5
        have hpl := pair_len h5
        rw [Vals.ref1 rx]
        refine Calls.call_function_entry kind_sorted plain_sorted entry_sorted (args_sorted1 _) ?_
        unfold Builtin.«sorted»
        refine wpAny_bind (m := checkCount "sorted" 1 1 _) (wpAny_pure ?_)
        refine wpAny_bind (collect_src (A := X.A.in1) (src_keysN h7 g2 g3 g4) (I.ok.hd hc) g1 (by rw [hpl, sizeLine_eq]; exact h8) fun h1' tk acc k1 z1 it => ?_)
        have rv : Vals (xs.map fun x => V.ref x.2.1) acc.toList := vals_refs (by rw [Array.length_toList]; exact it.1) fun j v e => it.2 j v (by rw [← Array.getElem?_toList]; exact e)
        obtain ⟨LD, e1, e2, e3, each⟩ := py_each I s hr rv (by simpa using ok1)
        rw [e1] at ok1 ok2 ok3 ok4 h
        rw [e3]
        have lLD : LD.length ≤ 1000000 := by simpa using ok4
        refine wpAny_bind (wpAny_newList ?_ (by rw [List.length_map, sizeLine_eq]; omega))
        have gL : (h1'.push (seqObj "list" (LD.map (·.2.2)).toArray 0)).get? h1'.objs.size = some (seqObj "list" (LD.map (·.2.2)).toArray 0) := Heap.get?_push_size _ rfl
        have al : ∀ z ∈ LD, ∀ y ∈ LD, PySem.W.alike (pyG g z.1) (pyG g y.1) = true := fun z hz y hy => by
          simp only [List.all_eq_true] at ok3
          exact ok3 _ (List.mem_map.mpr ⟨z, hz, rfl⟩) _ (List.mem_map.mpr ⟨y, hy, rfl⟩)
        refine wpAny_bind (wpAny_holding (list_sort_data (A := X.A.in1) (s := { st with heap := h1'.push (seqObj "list" (LD.map (·.2.2)).toArray 0), toks := tk }) (R := fun v z => v = z.2.2) (bs := LD) (enc := fun z => pyG g z.1) gL (eachIs_map fun _ _ => rfl)
          (eachIs_map fun z hz => ?_) (fun d hd d' hd' => ?_) ?_ (by rw [sizeLine_eq]; omega) (fun b hb => ?_) fun out lo eo => ?_))
        · obtain ⟨_, _, as, ra⟩ := each z hz
          refine ⟨as, PyProof.Rows.Reads.keeps (fun b o e => Heap.get?_push_of_some _ (k1 b o e)) ra, fun hin => ?_⟩
          exact absurd (reads_lt _ _ _ (al z hz z hz) ra _ hin) (Nat.not_lt.mpr z1)
        · obtain ⟨z, hz, rfl⟩ := List.mem_map.mp hd
          obtain ⟨y, hy, rfl⟩ := List.mem_map.mp hd'
          exact al z hz y hy
        · have := sortable_ok ok2
          rw [List.map_map] at this
          exact this
        · show X.A.units + 1 + 1 + _ < cLine
          have : ∃ p, toPy g 16 b.1 = some p := Option.isSome_iff_exists.mp (by simpa using (List.all_eq_true.mp ok1) _ (List.mem_map.mpr ⟨b, hb, rfl⟩))
          obtain ⟨p', ep'⟩ := this
          have := (shaped_to 16 b.1 p' ep').2
          have e9 : pyG g b.1 = p' := by unfold pyG; rw [ep']; rfl
          rw [e9]
          omega
        · have eM := eachIs_eq eo
          have eS : LD.mergeSort (dataLe false fun z => pyG g z.1) = sortL (dataLe false fun z : D × V × Value => pyG g z.1) LD := sortL_merge (sortLe_total (listOrd PyProof.Rows.itemOrd) false fun z : D × V × Value => keyToks (pyG g z.1)) LD
          rw [eS] at eM
          have pm := sortL_perm (le := dataLe false fun z : D × V × Value => pyG g z.1) LD
          have eD : (sortL (dataLe false fun z : D × V × Value => pyG g z.1) LD).map (·.1) = sortL (leG g) (LD.map (·.1)) := sortL_map (le := dataLe false fun z : D × V × Value => pyG g z.1) (le' := leG g) (·.1) LD fun z _ y _ => rfl
          generalize sortL (dataLe false fun z : D × V × Value => pyG g z.1) LD = M at eM pm eD
          obtain ⟨c, gc1⟩ := sortedHeap_at (vs := LD.map (·.2.2)) (out := out.toArray) gL
          rw [← eD] at h
          have inLD : ∀ z ∈ M, z ∈ LD := fun z hz => pm.mem_iff.mp hz
          refine wpAny_pure ⟨_, rfl, ?_⟩
          refine ep_lk (inv_made (s' := { st with heap := sortedHeap (h1'.push (seqObj "list" (LD.map (·.2.2)).toArray 0)) h1'.objs.size (LD.map (·.2.2)) out.toArray, toks := tk }) I (fun b u e => ?_) rfl rfl z1 gc1 (xs := M.map (·.2.1)) (by rw [List.toList_toArray, eM]; exact each3_vals fun z hz => (each z (inLD z hz)).2.1) (by rw [List.length_map, pm.length_eq, sizeLine_eq]; omega) ?_)
          · have e4 := k1 b u e
            have lt := Heap.lt_size e4
            show (sortedHeap (h1'.push (seqObj "list" (LD.map (·.2.2)).toArray 0)) h1'.objs.size (LD.map (·.2.2)) out.toArray).get? b = some u
            rw [sortedHeap_old (Nat.ne_of_lt lt) (by rw [size_push']; exact Nat.lt_succ_of_lt lt)]
            exact Heap.get?_push_of_some _ e4
          · exact lk_new s (each3_rep fun z hz => (each z (inLD z hz)).1) (I.hok.fresh z1) h
      · exact h.elim
    · exact h.elim
  · exact h.elim
end
end L3

/-! L4b: data sorted, whatever it is made of; dicts that are sorted. -/
namespace L3
open PySem PySem.Spec PyProof.Rows L2 PySem.W

structure SrtE {α : Type} (enc : α → D) (key : α → List Int) : Prop where
  fl : ∀ a, flD 15 (enc a) = true
  hd : ∀ a, ∃ x xs, pyD (enc a) = .tuple (x :: xs)
  al : ∀ a b, PySem.W.alike (pyD (enc a)) (pyD (enc b)) = true
  lt : ∀ a b, PySem.W.dataLt (pyD (enc a)) (pyD (enc b)) = ltR (key a) (key b)
section
variable {α : Type} {enc : α → D} {key : α → List Int}
theorem RowE.srt (R : RowE enc key) : SrtE enc key := by
  have e : ∀ a, pyD (enc a) = pyR (enc a) := fun a => by
    have := R.py [] a
    unfold pyG at this
    rw [toPy_fl 16 _ (flD_up _ _ _ (by omega) (R.fl a))] at this
    exact this
  refine ⟨fun a => flD_up _ _ _ (by omega) (R.fl a), fun a => ?_, fun a b => ?_, fun a b => ?_⟩
  · rw [e]
    have h1 := R.row a
    have h2 := R.ne a
    cases h : enc a with
    | tup ds =>
      rw [h] at h1
      cases ds with
      | nil => simp [rowD, numsD] at h1; exact absurd h1 h2
      | cons d ds => exact ⟨_, _, rfl⟩
    | _ => rw [h] at h1; simp [rowD] at h1
  · rw [e, e]
    exact alikeR (R.row a) (R.row b) (R.shp a b)
  · rw [e, e]
    exact ltPy (R.row a) (R.row b)
variable (R : SrtE enc key)
include R
theorem SrtE.py (g : GH) (a : α) : pyG g (enc a) = pyD (enc a) := by
  unfold pyG
  rw [toPy_fl 16 _ (flD_up _ _ _ (by omega) (R.fl a))]
  rfl
theorem SrtE.le (g : GH) (a b : α) : leG g (enc a) (enc b) = leK key a b := by
  unfold leG leK
  rw [R.py, R.py, R.lt]
theorem SrtE.ok (g : GH) {xs : List α} (hl : xs.length ≤ 1000000) : okSort g (xs.map enc) = true := by
  unfold okSort
  simp only [Bool.and_eq_true, decide_eq_true_eq, List.length_map]
  refine ⟨⟨⟨?_, ?_⟩, ?_⟩, hl⟩
  · rw [List.all_eq_true]
    intro d hd
    obtain ⟨a, _, rfl⟩ := List.mem_map.mp hd
    rw [toPy_fl 16 _ (flD_up _ _ _ (by omega) (R.fl a))]
    rfl
  · unfold sortable
    rw [Bool.or_eq_true]
    left
    rw [List.all_eq_true]
    intro p hp
    obtain ⟨d, hd, rfl⟩ := List.mem_map.mp hp
    obtain ⟨a, _, rfl⟩ := List.mem_map.mp hd
    rw [R.py]
    obtain ⟨x, ys, e⟩ := R.hd a
    rw [e]
  · rw [List.all_eq_true]
    intro d hd
    rw [List.all_eq_true]
    intro e he
    obtain ⟨a, _, rfl⟩ := List.mem_map.mp hd
    obtain ⟨b, _, rfl⟩ := List.mem_map.mp he
    rw [R.py, R.py]
    exact R.al a b
theorem SrtE.sorted (g : GH) (xs : List α) : sortL (leG g) (xs.map enc) = (sortL (leK key) xs).map enc :=
  (sortL_map (le := leK key) (le' := leG g) enc xs fun a _ b _ => (R.le g a b).symm).symm
theorem SrtE.sort {g : GH} {d : D} {xs : List α} {Q : D → GH → Prop} (h : seqV g d = some (xs.map enc)) (hl : xs.length ≤ 1000000) : wpo (fSortL [d] g) Q = Q (.rol ((sortL (leK key) xs).map enc)) g := by
  unfold fSortL
  simp only [h]
  rw [if_pos (R.ok g hl), R.sorted]
  rfl
theorem SrtE.sortD {g : GH} {d : D} {kvs : List (D × D)} {xs : List α} {Q : D → GH → Prop} (h : dicOf g d = some kvs) (e : kvs.map (·.1) = xs.map enc) (hl : xs.length ≤ 1000000) : wpo (fSortD [d] g) Q = Q (.rol ((sortL (leK key) xs).map enc)) g := by
  unfold fSortD
  simp only [h]
  rw [e, if_pos (R.ok g hl), R.sorted]
  rfl
end
/-! ### rows that may hold truth values -/
structure RowN {α : Type} (enc : α → D) (key : α → List Int) : Prop where
  row : ∀ a, rowD (enc a) = some (key a)
  ne : ∀ a, key a ≠ []
  shp : ∀ a b, shpD (enc a) = shpD (enc b)
  inj : ∀ a b, key a = key b → a = b
  fl : ∀ a, flD 2 (enc a) = true
section
variable {α : Type} {enc : α → D} {key : α → List Int} (R : RowN enc key)
include R
theorem RowN.kr (a : α) : keyR (enc a) = key a := rowD_key (R.row a)
theorem RowN.encInj (a b : α) (h : enc a = enc b) : a = b := R.inj a b (by rw [← R.kr, ← R.kr, h])
theorem RowN.fls {k : Nat} (hk : 2 ≤ k) (xs : List α) : (xs.map enc).all (flD k) = true := by
  rw [List.all_eq_true]
  intro x hx
  obtain ⟨a, _, rfl⟩ := List.mem_map.mp hx
  exact flD_up _ _ _ hk (R.fl a)
theorem RowN.tup (a : α) : ∃ ds, enc a = .tup ds := by
  have := R.row a
  cases h : enc a with
  | tup ds => exact ⟨ds, rfl⟩
  | _ => rw [h] at this; simp [rowD] at this
theorem RowN.setOf {g : GH} {d : D} {xs : List α} (h : seqV g d = some (xs.map enc)) (hl : xs.length < 64) : L3.setOf g d = some (canonR (xs.map enc)) := by
  cases xs with
  | nil =>
    unfold L3.setOf
    rw [h]
    rfl
  | cons x xs =>
    obtain ⟨ds, e⟩ := R.tup x
    have e1 : intsOf ((x :: xs).map enc) = none := by simp [intsOf, e]
    have e2 : okRows ((x :: xs).map enc) = true := by
      unfold okRows
      rw [List.all_eq_true]
      intro d hd
      obtain ⟨a, _, rfl⟩ := List.mem_map.mp hd
      simp [R.row a, R.shp a x]
    have e3 : ((x :: xs).map enc).all (fun d => decide (rowD d ≠ some [])) = true := by
      rw [List.all_eq_true]
      intro d hd
      obtain ⟨a, _, rfl⟩ := List.mem_map.mp hd
      have := R.ne a
      simp [R.row a, this]
    unfold L3.setOf
    rw [h]
    simp only [List.length_map]
    rw [if_pos hl, e1]
    simp only
    rw [e2, e3]
    rfl
theorem RowN.pick : ∀ {ds : List D} {xs : List α}, (∀ d ∈ ds, d ∈ xs.map enc) → ∃ ys : List α, ds = ys.map enc ∧ ∀ y ∈ ys, y ∈ xs
  | [], _, _ => ⟨[], rfl, by simp⟩
  | d :: ds, xs, h => by
    obtain ⟨a, ha, rfl⟩ := List.mem_map.mp (h d (by simp))
    obtain ⟨ys, rfl, hy⟩ := RowN.pick (ds := ds) (xs := xs) fun e he => h e (by simp [he])
    exact ⟨a :: ys, rfl, fun y hy' => by
      rcases List.mem_cons.mp hy' with rfl | z
      · exact ha
      · exact hy y z⟩
theorem RowN.canon (xs : List α) : ∃ ys : List α, canonR (xs.map enc) = ys.map enc ∧ upK key ys ∧ ∀ y, y ∈ ys ↔ y ∈ xs := by
  obtain ⟨ys, e, h⟩ := R.pick (ds := canonR (xs.map enc)) (xs := xs) fun d hd => canonR_sub d _ hd
  refine ⟨ys, e, ?_, fun y => ⟨h y, fun hy => ?_⟩⟩
  · have := canonR_up (xs.map enc)
    rw [e, upR, List.pairwise_map] at this
    exact this.imp fun h => by rwa [R.kr, R.kr] at h
  · obtain ⟨z, hz, ek⟩ := canonR_has (xs.map enc) (enc y) (List.mem_map.mpr ⟨y, hy, rfl⟩)
    rw [e] at hz
    obtain ⟨y', hy', rfl⟩ := List.mem_map.mp hz
    rw [R.kr, R.kr] at ek
    rw [← R.inj _ _ ek]
    exact hy'
end
theorem RowE.n {α : Type} {enc : α → D} {key : α → List Int} (R : RowE enc key) : RowN enc key := ⟨R.row, R.ne, R.shp, R.inj, R.fl⟩
/-- two ascending lists with the same items are one -/
theorem upK_one {α : Type} {key : α → List Int} : ∀ {xs ys : List α}, upK key xs → upK key ys → (∀ a, a ∈ xs ↔ a ∈ ys) → xs = ys
  | [], [], _, _, _ => rfl
  | [], y :: ys, _, _, h => absurd ((h y).mpr (by simp)) (by simp)
  | x :: xs, [], _, _, h => absurd ((h x).mp (by simp)) (by simp)
  | x :: xs, y :: ys, h1, h2, h => by
    rw [upK, List.pairwise_cons] at h1 h2
    have e : x = y := by
      rcases List.mem_cons.mp ((h x).mp (by simp)) with z | z
      · exact z
      · rcases List.mem_cons.mp ((h y).mpr (by simp)) with z2 | z2
        · exact z2.symm
        · have a := h1.1 y z2
          have b := h2.1 x z
          rw [ltR_asymm a] at b
          cases b
    subst e
    rw [upK_one h1.2 h2.2 fun a => ?_]
    constructor
    · intro ha
      rcases List.mem_cons.mp ((h a).mp (by simp [ha])) with z | z
      · subst z
        have := h1.1 a ha
        rw [ltR_irrefl] at this
        cases this
      · exact z
    · intro ha
      rcases List.mem_cons.mp ((h a).mpr (by simp [ha])) with z | z
      · subst z
        have := h2.1 a ha
        rw [ltR_irrefl] at this
        cases this
      · exact z
end L3

/-! L4c: a dict made of one pair; what a dict has at a key, or something else. -/
namespace L3
open PySem PySem.Spec PyProof.Rows L2

/-- {k: v}, the key a tuple -/
def eDOne (k v : EV) : EV := fun ρ g => (k ρ (g ++ [.dct []])).bind fun d g1 => (v ρ g1).bind fun e g2 => match g2[g.length]?, keyD d with
  | some (.dct []), some _ => .ok (.ref g.length) (g2.set g.length (.dct [(d, e)]))
  | _, _ => .bad
/-- o.get(k, v) -/
def eGetD (o k v : EV) : EV := fun ρ g => (o ρ g).bind fun c g1 => match dicOf g1 c with
  | some _ => (k ρ g1).bind fun d g2 => (v ρ g2).bind fun e g3 => match dicOf g3 c, keyD d with
    | some kvs, some key => .ok ((lookK kvs key).getD e) g3
    | _, _ => .bad
  | none => .bad
section
variable {X : Cx} {Z : Row} {W : WX} {pos : Pos} {k v o : Expr} {ek ev eo : EV}
theorem pe3_done (hK : Z.K = X.kw) (hu : X.A.units + 65 < cLine) (ha : PE X k (tE Z ek W)) (hb : PE X v (tE Z ev W)) : PE X (.Dict [some k] [v] pos) (tE Z (eDOne ek ev) W) := by
  obtain ⟨K, T, ec⟩ := Z
  obtain rfl : K = X.kw := hK
  refine ⟨fun pins st σ H Q I ⟨m, g, ρ, s, r, h⟩ => ?_⟩
  have h : Post X.kw T (RD ⟨X.kw, T, ec⟩) (eDOne ek ev ρ g) m H Q (WofX ⟨X.kw, T, ec⟩ W σ) := h
  generalize hp : st.heap.objs.size = p at *
  have hn : H p = none := by rw [← hp]; exact I.hok.fresh (Nat.le_refl _)
  have hsm : (p == sysModules) = false := by rw [← hp]; exact beq_eq_false_iff_ne.mpr (Ne.symm (Nat.ne_of_lt I.big))
  obtain ⟨e, s2⟩ := s.new (u := DicO X.prog X.w p []) (o := .dct []) hn ⟨[], upd_same, rfl, List.nodup_nil, hsm, by decide⟩
  have gp : (st.heap.push { cls := .type "dict", data := .dict #[] }).get? p = some { cls := .type "dict", data := .dict #[] } := by rw [← hp]; exact Heap.get?_push_size _ rfl
  have ok : ObjOk X.prog X.w (upd H p (DicO X.prog X.w p [])) (st.heap.push { cls := .type "dict", data := .dict #[] }) p (DicO X.prog X.w p []) :=
    ⟨⟨_, #[], 0, gp, ⟨rfl, rfl, rfl⟩, rfl, rfl, List.nodup_nil⟩, ⟨_, gp⟩, fun h1 h2 ⟨o', es', ep', y1, y2⟩ keep => ⟨o', es', ep', keep _ y1, y2⟩⟩
  have I1 : Inv X pins σ (upd H p (DicO X.prog X.w p [])) { st with heap := st.heap.push { cls := .type "dict", data := .dict #[] } } := I.laid (a := p) (o := DicO X.prog X.w p []) (t' := st.toks) (fun _ _ q => Heap.get?_push_of_some _ q) (Nat.le_of_eq hp) ok
  have hu8 : X.A.units + 8 < cLine := by omega
  rw [arm_eval_Dict, zip_pairTrees [some k] [v] X.env pos rfl rfl, dictDisplay_pairs _ (by simp [pairTrees]) (by simp [pairTrees])]
  refine wpAny_bind (wpAny_standAt (wpAny_bind (wpAny_subDictH (knd := nestedKind X.prog X.w) hu8 (by simp [pairTrees]) ?_)))
  have h' : Post X.kw T (RD ⟨X.kw, T, ec⟩) ((ek ρ (g ++ [.dct []])).bind fun d g1 => (ev ρ g1).bind fun e g2 => match g2[g.length]?, keyD d with
    | some (.dct []), some _ => Res.ok (D.ref g.length) (g2.set g.length (.dct [(d, e)]))
    | _, _ => .bad) (m ++ [p]) (upd H p (DicO X.prog X.w p [])) Q (WofX ⟨X.kw, T, ec⟩ W σ) := Post.ext h e
  have hm : (m ++ [p])[g.length]? = some p := by rw [← s.len]; simp
  refine pairTrees_cons_walk (thn (ha.run pins _ σ _ (fun x H1 => tE ⟨X.kw, T, ec⟩ ev W σ H1 fun y H2 => ∃ m2 g2 d e, S X.kw T m2 g2 H2 ∧ DRep X.kw m2 H2 d x ∧ DRep X.kw m2 H2 e y ∧ m2[g.length]? = some p ∧ Post X.kw T (RD ⟨X.kw, T, ec⟩) (match g2[g.length]?, keyD d with
    | some (.dct []), some _ => Res.ok (D.ref g.length) (g2.set g.length (.dct [(d, e)]))
    | _, _ => .bad) m2 H2 Q (WofX ⟨X.kw, T, ec⟩ W σ)) I1
    (two (Z := ⟨X.kw, T, ec⟩) (f := fun d e g2 => match g2[g.length]?, keyD d with
    | some (.dct []), some _ => Res.ok (D.ref g.length) (g2.set g.length (.dct [(d, e)]))
    | _, _ => .bad) s2 (r.mono e) h' fun m2 H2 d e' v u g2 x2 s3 rv ru _ h2 => ⟨m2, g2, d, e', s3, rv, ru, x2.get hm, h2⟩)) fun kv sA ⟨x, HA, IA, rx, qA⟩ =>
    thn (hb.run pins _ σ _ _ IA qA) fun vv sB ⟨y, HB, IB, ry, m2, g2, d, d2, s3, rd, re, hm2, h2⟩ => pairTrees_nil_walk ?_)
  split at h2
  · rename_i key eg ek'
    obtain ⟨b, rfl, rfl, hbk⟩ := key_rep IB ek' rd rx
    subst hp
    obtain ⟨go, eg2, ro⟩ := s3.at hm2
    rw [eg] at eg2
    cases eg2
    obtain ⟨xs, h4, h5, h6, h7, h8⟩ := ro
    have hxs : xs = [] := h5
    subst hxs
    refine ⟨[(key, b, vv)], ⟨rfl, rfl, hbk, trivial⟩, dic_full IB (.inl h4) h5, fun h' tk dd hs => ?_⟩
    have dd2 : h'.DictOfH (nestedKind X.prog X.w) st.heap.objs.size [(key, b, vv)] := dd
    obtain ⟨q, es, ep, d1, d2', d3, d4, d5, d6⟩ := dd2
    obtain ⟨k1, k2, ds, rfl⟩ := keyD_tup ek'
    have mw : Mine (DicO X.prog X.w st.heap.objs.size []) := fun c q' => dicO_code X.prog X.w st.heap.objs.size h6 c q'
    have ex := s3.putE (u := DicO X.prog X.w st.heap.objs.size [(key, b, vv)]) hm2 h4 mw (by unfold DicO; intro _ z; cases z)
    have hp' : PairD X.kw m2 (upd HB st.heap.objs.size (DicO X.prog X.w st.heap.objs.size [(key, b, vv)])) [(.tup ds, d2)] [(key, b, vv)] := PairD.mono0 (DRep.mono ex) _ _ ⟨key, b, vv, y, [], rfl, k1, k2, rd, ry, re, rfl⟩
    obtain ⟨e6, s6⟩ := s3.put (o := .dct [(.tup ds, d2)]) (u := DicO X.prog X.w st.heap.objs.size [(key, b, vv)]) hm2 h4 mw ⟨_, upd_same, hp', d6, h7, by simp⟩ (by unfold DicO; intro _ z; cases z)
    refine wpAny_pure ⟨.ref st.heap.objs.size, _, d_write (ob := DicO X.prog X.w st.heap.objs.size [(key, b, vv)]) IB (by rw [h4]; exact True.intro) hs ⟨q, d1⟩ ?_, rfl, h2 m2 _ (.ref st.heap.objs.size) e6 s6 ?_⟩
    · exact ⟨⟨q, es, ep, d1, d2', d3, d4, d6⟩, ⟨q, d1⟩, fun h1 h2 ⟨o', es', ep', y1, y2⟩ keep => ⟨o', es', ep', keep _ y1, y2⟩⟩
    · show DRep _ _ _ (.ref g.length) _
      rw [DRep]
      exact ⟨st.heap.objs.size, rfl, hm2⟩
  · exact h2.elim
theorem pe3_getD {apos : Pos} (hK : Z.K = X.kw) (hu : X.A.units + 65 < cLine) (ho : PE X o (tE Z eo W)) (ha : PE X k (tE Z ek W)) (hb : PE X v (tE Z ev W)) (hbase : attributeBase o "get" X.env (eval o X.env) = eval o X.env := by rfl)
    (hfew : ((backTo pos (starEach [k, v] X.env)).all (fun x => !x.1) && (backToKw pos (keywordEach [] X.env)).all (fun x => x.1.isSome)
      && decide (([k, v] : List Expr).length + ([] : List Keyword).length + (if ([] : List Keyword).isEmpty then 0 else 1) < 30)) = true := by rfl)
    (hline : (apos.endLine == pos.line) = true := by rfl) (htr : backTo pos (starEach [k, v] X.env) = [(false, eval k X.env), (false, eval v X.env)] := by rfl) :
    PE X (.Call (.Attribute o "get" apos) [k, v] [] pos) (tE Z (eGetD eo ek ev) W) := by
  obtain ⟨K, T, ec⟩ := Z
  obtain rfl : K = X.kw := hK
  refine ⟨fun pins st σ H Q I ⟨m, g, ρ, s, r, h⟩ => ?_⟩
  have h : Post X.kw T (RD ⟨X.kw, T, ec⟩) (eGetD eo ek ev ρ g) m H Q (WofX ⟨X.kw, T, ec⟩ W σ) := h
  unfold eGetD at h
  refine wpAny_Call_method hbase hfew hline PySem.F.plainAttrs_dict PySem.F.slot_dict_get PySem.F.type_dict_get (thn (ho.run pins st σ H (fun x H1 => ∃ m1 g1 c, S X.kw T m1 g1 H1 ∧ RhoRep X.kw m1 H1 ρ σ ∧ DRep X.kw m1 H1 c x ∧ Post X.kw T (RD ⟨X.kw, T, ec⟩) (match dicOf g1 c with
    | some _ => (ek ρ g1).bind fun d g2 => (ev ρ g2).bind fun e g3 => match dicOf g3 c, keyD d with
      | some kvs, some key => Res.ok ((lookK kvs key).getD e) g3
      | _, _ => .bad
    | none => .bad) m1 H1 Q (WofX ⟨X.kw, T, ec⟩ W σ)) I ⟨m, g, ρ, s, r, Post.bind h fun m1 H1 d v g1 e1 s1 r1 h1 => ⟨m1, g1, d, s1, r.mono e1, r1, h1⟩⟩) fun u s1 ⟨x, H1, I1, rx, m1, g1, c, st1, r1, rc, h1⟩ => ?_)
  split at h1
  · rename_i kvs0 e0
    obtain ⟨a, xs, rfl, h4, h5, h6, h7, h8⟩ := dic_at st1 rc e0
    cases (show u = Value.ref a from rx)
    have full := dic_full I1 h4 h5
    obtain ⟨o1, es1, ep1, f1, f2, _⟩ := id full
    refine ⟨full.typeIs, fun b z => ?_, ?_⟩
    · cases z
      exact ⟨o1, f1, f2.2.1⟩
    · rw [htr]
      refine wpAny_dict_get2_heap (knd := nestedKind X.prog X.w) (show X.A.in1.units + 8 < cLine by show X.A.units + 1 + 8 < cLine; omega) h7 ?_
      refine thn (ha.run pins s1 σ H1 _ I1 (two (Z := ⟨X.kw, T, ec⟩) (Q := fun x y H2 => ∃ m2 g2 d e, S X.kw T m2 g2 H2 ∧ DRep X.kw m2 H2 d x ∧ DRep X.kw m2 H2 e y ∧ DRep X.kw m2 H2 c (.ref a) ∧ Post X.kw T (RD ⟨X.kw, T, ec⟩) (match dicOf g2 c, keyD d with
        | some kvs, some key => Res.ok ((lookK kvs key).getD e) g2
        | _, _ => .bad) m2 H2 Q (WofX ⟨X.kw, T, ec⟩ W σ)) (f := fun d e g3 => match dicOf g3 c, keyD d with
        | some kvs, some key => Res.ok ((lookK kvs key).getD e) g3
        | _, _ => .bad) st1 r1 h1 fun m2 H2 d e' v u g2 x2 s3 rv ru _ h2 => ⟨m2, g2, d, e', s3, rv, ru, rc.mono x2, h2⟩)) fun kv sA ⟨x, HA, IA, rx, qA⟩ =>
        thn (hb.run pins _ σ _ _ IA qA) fun vv sB ⟨y, HB, IB, ry, m2, g2, d, d2, s3, rd, re, rc2, h2⟩ => ?_
      split at h2
      · rename_i kvs key e1 e2
        obtain ⟨a', xs2, ea, i4, i5, i6, i7, i8⟩ := dic_at s3 rc2 e1
        cases ea
        obtain ⟨b, rfl, rfl, hbk⟩ := key_rep IB e2 rd rx
        refine ⟨b, key, xs2, rfl, hbk, dic_full IB i4 i5, ?_⟩
        have l := pair_look (key := key) i5
        cases e3 : lookK kvs key with
        | some z =>
          rw [e3] at l h2
          obtain ⟨b2, w, vv2, l1, l2, l3⟩ := l
          rw [l1]
          exact ⟨vv2, HB, IB.tok _, l2, h2 m2 HB vv2 .refl s3 l3⟩
        | none =>
          rw [e3] at l h2
          simp only at l
          rw [l]
          exact ⟨y, HB, IB.tok _, ry, h2 m2 HB y .refl s3 re⟩
      · exact h2.elim
  · exact h1.elim
end
section
variable {Q : D → GH → Prop} {W : Exc → GH → Prop} {ρ : Rho} {g : GH}
@[simp] theorem wp_eDOne (k v : EV) : wp (eDOne k v ρ g) Q W = wp (k ρ (g ++ [.dct []])) (fun d g1 => wp (v ρ g1) (fun e g2 => g2[g.length]? = some (.dct []) ∧ (keyD d).isSome = true ∧ Q (.ref g.length) (g2.set g.length (.dct [(d, e)]))) W) W := by
  simp only [eDOne, wp_bind]
  congr 1
  funext d g1
  congr 1
  funext e g2
  cases h : g2[g.length]? with
  | none => simp
  | some o =>
    cases o with
    | dct kvs =>
      cases kvs with
      | nil => cases h2 : keyD d <;> simp
      | cons a r => simp
    | _ => simp
@[simp] theorem wp_eGetD (o k v : EV) : wp (eGetD o k v ρ g) Q W = wp (o ρ g) (fun c g1 => (dicOf g1 c).isSome = true ∧ wp (k ρ g1) (fun d g2 => wp (v ρ g2) (fun e g3 => ∃ kvs key, dicOf g3 c = some kvs ∧ keyD d = some key ∧ Q ((lookK kvs key).getD e) g3) W) W) W := by
  simp only [eGetD, wp_bind]
  congr 1
  funext c g1
  cases h : dicOf g1 c with
  | none => simp
  | some kvs0 =>
    simp only [wp_bind, Option.isSome_some, true_and]
    congr 1
    funext d g2
    congr 1
    funext e g3
    cases h1 : dicOf g3 c with
    | none => simp
    | some kvs => cases h2 : keyD d <;> simp
end
/-! ### the least of three -/
def min3 (i j k : Int) : Int := if k < (if j < i then j else i) then k else if j < i then j else i
def fMin3 : FN := fun xs g => match xs with
  | [.int i, .int j, .int k] => some (.int (min3 i j k), g)
  | _ => none
theorem c_min3 {X : Cx} {Z : Row} (hK : Z.K = X.kw) (hc : X.calm = true) : CallR X (.builtin "min") (rN Z fMin3) := by
  obtain ⟨K, T, ec⟩ := Z
  obtain rfl : K = X.kw := hK
  intro pins st σ H xs us Q I rx ⟨m, g, ds, s, hd, h⟩
  unfold fMin3 at h
  split at h
  · rename_i i j k
    rw [DReps] at hd
    obtain ⟨v, r', rfl, h1, h2⟩ := hd
    obtain ⟨v2, v3, rfl, h3, h4⟩ := reps2 h2
    cases D.int_inv h1; cases D.int_inv h3; cases D.int_inv h4
    refine call_min3Nu hc pins st σ H _ us Q I rx ⟨_, _, _, V.int (min3 i j k), rfl, ?_, h.here s D.mk_int⟩
    have e : ∀ a b : Int, nuMin2 (.int a) (.int b) = some (.int (if b < a then b else a)) := fun a b => by
      by_cases z : b < a
      · simp [nuMin2, nuLt, nuCB, z]
      · simp [nuMin2, nuLt, nuCB, z]
    unfold nuMin3
    rw [e, Option.bind_some, e]
    rfl
  · exact h.elim
@[simp] theorem min_int3 {Q : D → GH → Prop} {g : GH} (i j k : Int) : wpo (fMin3 [.int i, .int j, .int k] g) Q = Q (.int (min3 i j k)) g := rfl
end L3

/-! L4d: texts: signs walked, split, join, strip, slices; every second item; ints read. -/
namespace L3
open PySem PySem.Spec PyProof.Rows L2

/-! ### a sign in a text -/
def opNotInS : F2 := fun d e g => match d, e with
  | .str c, .str z => match c.cps.toList with
    | [k] => some (.bl (!decide (k ∈ z.cps.toList)), g)
    | _ => none
  | _, _ => none
def charsD (x : Str) : List D := x.cps.toList.map fun c => .str ⟨#[c]⟩
def iStrD (a : EV) : IV := fun ρ g => (a ρ g).bind fun d g1 => match d with
  | .str x => .ok ⟨[], charsD x⟩ g1
  | _ => .bad
def strsOf : List D → Option (List Str)
  | [] => some []
  | .str s :: ds => (strsOf ds).map fun ss => s :: ss
  | _ :: _ => none
def eSplit (a b : EV) : EV := fun ρ g => (a ρ g).bind fun d g1 => match d with
  | .str x => (b ρ g1).bind fun e g2 => match e with
    | .str y => if (y.length == 0) = false ∧ x.length + 2 ≤ 16777216 then .ok (.rol ((Txt.split x y).map D.str)) g2 else .bad
    | _ => .bad
  | _ => .bad
def eJoin (a b : EV) : EV := fun ρ g => (a ρ g).bind fun d g1 => match d with
  | .str x => (b ρ g1).bind fun e g2 => match e with
    | .rol ds => match strsOf ds with
      | some ys => if (ys.map (·.length)).sum + ys.length * x.length ≤ 16777216 then .ok (.str (Txt.join x ys)) g2 else .bad
      | none => .bad
    | _ => .bad
  | _ => .bad
def eStrip (a b : EV) : EV := fun ρ g => (a ρ g).bind fun d g1 => match d with
  | .str x => (b ρ g1).bind fun e g2 => match e with
    | .str y => if x.length ≤ 16777216 then .ok (.str (Txt.stripChars x y)) g2 else .bad
    | _ => .bad
  | _ => .bad
def opSlS (d : D) (lo hi : Option Int) (g : GH) : Option (D × GH) := match d with
  | .str z => if z.length ≤ 16777216 then some (.str (cutS z lo hi), g) else none
  | _ => none
def eSlS (a : EV) (lo hi : OV) : EV := fun ρ g => (a ρ g).bind fun d g1 => (lo ρ g1).bind fun l g2 => (hi ρ g2).bind fun h g3 => liftO (opSlS d l h g3)
/-- the places of xs[lo::2] -/
def ix2 (lo : Option Int) (n : Nat) : List Nat := sliceRange (sliceBounds lo none (some 2) n).1 (sliceBounds lo none (some 2) n).2.1 (sliceBounds lo none (some 2) n).2.2
def pickN {α : Type} (xs : List α) (is : List Nat) : List α := is.filterMap fun i => xs[i]?
def eSt2 (a : EV) (lo : Option Int) : EV := fun ρ g => (a ρ g).bind fun d g1 => match d with
  | .rol ds => if (pickN ds (ix2 lo ds.length)).length ≤ 16777216 then .ok (.rol (pickN ds (ix2 lo ds.length))) g1 else .bad
  | _ => .bad
def fIntS : FN := fun xs g => match xs with
  | [.str a] => match PySem.intText? a with
    | some n => if a.length ≤ 640 then some (.int n, g) else none
    | none => none
  | _ => none
/-- range(0, j, 2) -/
def iRgE (a : EV) : IV := fun ρ g => (a ρ g).bind fun d g1 => match d with
  | .int j => if 0 ≤ j ∧ j ≤ 1000000 then .ok ⟨[], (List.range ((j.toNat + 1) / 2)).map fun k : Nat => .int (0 + (k : Int) * 2)⟩ g1 else .bad
  | _ => .bad
section
variable {X : Cx} {Z : Row} {W : WX} {pos : Pos} {tg a b : Expr} {ea eb : EV}
theorem o_notInS : OpR X (compareOp .NotIn) (r2 Z opNotInS) := by
  intro pins st σ H x y v u Q I rx ry ⟨m, g, d, e, s, hd, he, h⟩
  unfold opNotInS at h
  split at h
  · rename_i c z
    split at h
    · rename_i k e1
      have hc : c = ⟨#[k]⟩ := by
        obtain ⟨cps⟩ := c
        congr 1
        exact Array.toList_inj.mp (by simpa using e1)
      subst hc
      rw [DRep] at hd he
      subst hd he
      exact op_notInS pins st σ H _ _ v u Q I rx ry ⟨k, z, rfl, rfl, h.here s D.mk_bl⟩
    · exact h.elim
  · exact h.elim
theorem jrep_str {K : KW} {T : List (Addr × Str)} {m0 : List Addr} {H0 : Hp} {x : Str} : JRep K T m0 H0 ⟨[], charsD x⟩ (Its x) := by
  intro i m g H e s hd
  have hl : (charsD x).length = x.cps.size := by simp [charsD]
  refine ⟨fun hi => ?_, fun hi => ⟨?_, fun v H' y => ?_⟩⟩
  · rw [hi]
    show x.cps.size ≤ (charsD x).length
    omega
  · have : i < (charsD x).length := hi
    show i < x.cps.size
    omega
  · obtain ⟨rfl, c, e1, rfl⟩ := y
    refine ⟨.str ⟨#[c]⟩, ?_, .refl, s, D.mk_str⟩
    show (charsD x)[i]? = _
    unfold charsD
    rw [List.getElem?_map, Array.getElem?_toList, e1]
    rfl
theorem pi3_strD (ha : PE X a (tE Z ea W)) : PI X tg a (tI3 Z (iStrD ea) W) :=
  PI.imp (pi_str ha) fun σ H R ⟨m, g, ρ, s, r, h⟩ => ⟨m, g, ρ, s, r, Post.bind h fun m1 H1 d v g1 e1 s1 r1 h1 => by
    split at h1
    · rename_i x
      have r1 : v = .str x := by simpa [DRep] using r1
      exact ⟨x, r1, h1 m1 H1 (Its x) .refl s1 jrep_str⟩
    · exact h1.elim⟩
theorem strs_reps {K : KW} {m : List Addr} {H : Hp} : ∀ {ds : List D} {ss : List Str} {vs : List V}, strsOf ds = some ss → DReps K m H ds vs → vs = ss.map V.str
  | [], ss, vs, e, r => by
    rw [DReps] at r
    simp [strsOf] at e
    subst e r
    rfl
  | d :: ds, ss, vs, e, r => by
    rw [DReps] at r
    obtain ⟨v, r', rfl, h1, h2⟩ := r
    cases d with
    | str z =>
      simp only [strsOf, Option.map_eq_some_iff] at e
      obtain ⟨ss', e2, rfl⟩ := e
      rw [strs_reps e2 h2]
      rw [DRep] at h1
      rw [h1]
      rfl
    | _ => simp [strsOf] at e
theorem reps_strs {K : KW} {m : List Addr} {H : Hp} : ∀ ss : List Str, DReps K m H (ss.map D.str) (ss.map V.str)
  | [] => by show DReps _ _ _ [] []; rw [DReps]
  | z :: ss => by
    show DReps _ _ _ (.str z :: ss.map D.str) (V.str z :: ss.map V.str)
    rw [DReps]
    exact ⟨_, _, rfl, D.mk_str, reps_strs ss⟩
theorem pe3_split {apos : Pos} (hK : Z.K = X.kw) (ha : PE X a (tE Z ea W)) (hb : PE X b (tE Z eb W)) (hs : starEach [b] X.env = [(false, eval b X.env)] := by rfl) (hbase : attributeBase a "split" X.env (eval a X.env) = eval a X.env := by rfl) (hline : (apos.endLine == pos.line) = true := by rfl) :
    PE X (.Call (.Attribute a "split" apos) [b] [] pos) (tE Z (eSplit ea eb) W) := by
  obtain ⟨K, T, ec⟩ := Z
  obtain rfl : K = X.kw := hK
  refine PE.imp (PE.lk (pe_split ha hb hs hbase hline)) fun σ H Q ⟨m, g, ρ, s, r, h⟩ => ⟨m, g, ρ, s, r, Post.bind h fun m1 H1 d v g1 e1 s1 r1 h1 => ?_⟩
  split at h1
  · rename_i x
    have r1 : v = .str x := by simpa [DRep] using r1
    subst r1
    refine ⟨⟨x, rfl⟩, m1, g1, ρ, s1, r.mono e1, Post.bind h1 fun m2 H2 d2 v2 g2 e2 s2 r2 h2 => ?_⟩
    split at h2
    · rename_i y
      split at h2
      · rename_i hc
        have r2 : v2 = .str y := by simpa [DRep] using r2
        subst r2
        exact ⟨x, y, rfl, rfl, hc.1, by rw [sizeLine_eq]; exact hc.2, fun p hp => lk_new s2 (reps_strs _) hp h2⟩
      · exact h2.elim
    · exact h2.elim
  · exact h1.elim
theorem pe3_join {apos : Pos} (hK : Z.K = X.kw) (ha : PE X a (tE Z ea W)) (hb : PE X b (tE Z eb W)) (hs : starEach [b] X.env = [(false, eval b X.env)] := by rfl) (hbase : attributeBase a "join" X.env (eval a X.env) = eval a X.env := by rfl) (hline : (apos.endLine == pos.line) = true := by rfl) :
    PE X (.Call (.Attribute a "join" apos) [b] [] pos) (tE Z (eJoin ea eb) W) := by
  obtain ⟨K, T, ec⟩ := Z
  obtain rfl : K = X.kw := hK
  refine PE.imp (pe_join ha hb hs hbase hline) fun σ H Q ⟨m, g, ρ, s, r, h⟩ => ⟨m, g, ρ, s, r, Post.bind h fun m1 H1 d v g1 e1 s1 r1 h1 => ?_⟩
  split at h1
  · rename_i x
    have r1 : v = .str x := by simpa [DRep] using r1
    subst r1
    refine ⟨⟨x, rfl⟩, m1, g1, ρ, s1, r.mono e1, Post.bind h1 fun m2 H2 d2 v2 g2 e2 s2 r2 h2 => ?_⟩
    split at h2
    · rename_i ds
      split at h2
      · rename_i ys e3
        split at h2
        · rename_i hc
          have r2 : DRep X.kw m2 H2 (.rol ds) v2 := r2
          rw [DRep] at r2
          obtain ⟨p, vs, rfl, q1, q2⟩ := r2
          rw [strs_reps e3 q2] at q1
          exact ⟨x, p, ys, rfl, rfl, .inl q1.sql, hc, h2.here s2 D.mk_str⟩
        · exact h2.elim
      · exact h2.elim
    · exact h2.elim
  · exact h1.elim
theorem pe3_strip {apos : Pos} (ha : PE X a (tE Z ea W)) (hb : PE X b (tE Z eb W)) (hs : starEach [b] X.env = [(false, eval b X.env)] := by rfl) (hbase : attributeBase a "strip" X.env (eval a X.env) = eval a X.env := by rfl) (hline : (apos.endLine == pos.line) = true := by rfl) :
    PE X (.Call (.Attribute a "strip" apos) [b] [] pos) (tE Z (eStrip ea eb) W) := by
  refine PE.imp (pe_m1 PySem.F.slot_str_strip PySem.F.type_str_strip mt_stripChars ha hb hs hbase hline) fun σ H Q ⟨m, g, ρ, s, r, h⟩ => ⟨m, g, ρ, s, r, Post.bind h fun m1 H1 d v g1 e1 s1 r1 h1 => ?_⟩
  split at h1
  · rename_i x
    have r1 : v = .str x := by simpa [DRep] using r1
    subst r1
    refine ⟨⟨x, rfl⟩, m1, g1, ρ, s1, r.mono e1, Post.bind h1 fun m2 H2 d2 v2 g2 e2 s2 r2 h2 => ?_⟩
    split at h2
    · rename_i y
      split at h2
      · rename_i hc
        have r2 : v2 = .str y := by simpa [DRep] using r2
        subst r2
        exact ⟨x, y, rfl, rfl, by rw [sizeLine_eq]; exact hc, h2.here s2 D.mk_str⟩
      · exact h2.elim
    · exact h2.elim
  · exact h1.elim
theorem pe3_slS {lo hi : Option Expr} {p2 : Pos} {ol oh : OV} (ha : PE X a (tE Z ea W)) (hl : L2.PO X lo (tO3 Z ol W)) (hh : L2.PO X hi (tO3 Z oh W)) : PE X (.Subscript a (.Slice lo hi none p2) pos) (tE Z (eSlS ea ol oh) W) := by
  have rule : L2.SlR X (fun x lo hi H Q => ∃ m g d, S Z.K Z.T m g H ∧ DRep Z.K m H d x ∧ Post Z.K Z.T (RD Z) (liftO (opSlS d lo hi g)) m H Q W0) := by
    intro pins st σ H x v vl vu lo hi sl Q I rx hs pl pu ⟨m, g, d, s, hd, h⟩
    unfold opSlS at h
    split at h
    · rename_i z
      split at h
      · rename_i hz
        have hd : x = .str z := by simpa [DRep] using hd
        subst hd
        exact sl_str pins st σ H _ v vl vu lo hi sl Q I rx hs pl pu ⟨z, rfl, by rw [sizeLine_eq]; exact hz, h.here s D.mk_str⟩
      · exact h.elim
    · exact h.elim
  exact (pe_slice rule ha hl hh).imp fun σ H Q ⟨m, g, ρ, s, r, h⟩ => ⟨m, g, ρ, s, r, Post.bind h fun m1 H1 d v g1 e1 s1 r1 h1 =>
    ⟨m1, g1, ρ, s1, r.mono e1, Post.bind h1 fun m2 H2 l l' g2 e2 s2 r2 h2 => ⟨m2, g2, ρ, s2, (r.mono e1).mono e2, Post.bind h2 fun m3 H3 k k' g3 e3 s3 r3 h3 => by
      cases r2; cases r3
      exact ⟨m3, g3, d, s3, (r1.mono e2).mono e3, h3.lift⟩⟩⟩⟩
theorem c_intS : CallR X (.type "int") (rN Z fIntS) := by
  intro pins st σ H xs us Q I rx ⟨m, g, ds, s, hd, h⟩
  unfold fIntS at h
  split at h
  · rename_i z
    obtain ⟨v, rfl, h1⟩ := reps1 hd
    have h1 : v = .str z := by simpa [DRep] using h1
    subst h1
    split at h
    · rename_i n e
      split at h
      · rename_i hl
        exact call_int_str pins st σ H _ us Q I rx ⟨z, n, rfl, e, hl, h.here s D.mk_int⟩
      · exact h.elim
    · exact h.elim
  · exact h.elim
/-! every second item -/
theorem pick_vals {xs : List V} {its : List Value} (h : Vals xs its) : ∀ is : List Nat, Vals (pickN xs is) (pickN its is)
  | [] => .nil
  | i :: is => by
    have ih := pick_vals h is
    unfold pickN at ih ⊢
    rw [List.filterMap_cons, List.filterMap_cons]
    cases e1 : xs[i]? with
    | some x =>
      obtain ⟨u, e2, r⟩ := h.get e1
      rw [e2]
      exact .cons r ih
    | none =>
      rw [h.none_of e1]
      exact ih
theorem pick_reps {K : KW} {m : List Addr} {H : Hp} {ds : List D} {xs : List V} (h : DReps K m H ds xs) : ∀ is : List Nat, DReps K m H (pickN ds is) (pickN xs is)
  | [] => by show DReps _ _ _ [] []; rw [DReps]
  | i :: is => by
    have ih := pick_reps h is
    unfold pickN at ih ⊢
    rw [List.filterMap_cons, List.filterMap_cons]
    have hl := h.length
    by_cases hi : i < xs.length
    · have e2 : xs[i]? = some xs[i] := by simp [hi]
      obtain ⟨d, e1, r⟩ := h.get' e2
      rw [e1, e2]
      show DReps _ _ _ (d :: _) (xs[i] :: _)
      rw [DReps]
      exact ⟨_, _, rfl, r, ih⟩
    · have e1 : xs[i]? = none := by simp <;> omega
      have e2 : ds[i]? = none := by simp <;> omega
      rw [e1, e2]
      exact ih
theorem pick_len {α β : Type} (xs : List α) (ys : List β) (h : xs.length = ys.length) : ∀ is : List Nat, (pickN xs is).length = (pickN ys is).length
  | [] => rfl
  | i :: is => by
    have ih := pick_len xs ys h is
    unfold pickN at ih ⊢
    rw [List.filterMap_cons, List.filterMap_cons]
    by_cases hi : i < xs.length
    · have e1 : xs[i]? = some xs[i] := by simp [hi]
      have e2 : ys[i]? = some (ys[i]'(by omega)) := by simp <;> omega
      rw [e1, e2]
      simp only [List.length_cons, ih]
    · have e1 : xs[i]? = none := by simp <;> omega
      have e2 : ys[i]? = none := by simp <;> omega
      rw [e1, e2]
      exact ih
def tSt2 (K : PySem.W.Frag) (lo : Option Int) (te : TE) : TE := fun σ H Q => te σ H fun x H1 => ∃ a xs, x = .ref a ∧ SqL K H1 a xs ∧ (pickN xs (ix2 lo xs.length)).length ≤ sizeLine ∧ ∀ p, H1 p = none → Q (.ref p) (upd H1 p (.lst (pickN xs (ix2 lo xs.length))))
theorem pe_st2 {e : Expr} {te : TE} {lo : Option Expr} {lv : Option Int} {k : Nat} {p1 p3 pos : Pos} (he : PE X e te) (hl : PO X lo (fun _ H' R => R lv H')) : PE X (.Subscript e (.Slice lo none (some (.Constant (.int 2) k p1)) p3) pos) (tSt2 X.K lv te) := by
  refine ⟨fun pins s σ H Q I h => ?_⟩
  refine Subscript_ (thn (he.run pins s σ H _ I h) fun v s1 ⟨x, H1, I1, r1, q1⟩ => ?_)
  obtain ⟨a, xs, ex, hx, hz, q⟩ := q1
  subst ex
  cases r1
  have hst : PO X (some (.Constant (.int 2) k p1)) (tPart (tC (.int 2))) := po_some pe_int
  refine wpAny_Slice (thn (hl.run pins s1 σ H1 (fun o H2 => o = lv ∧ H2 = H1) I1 ⟨rfl, rfl⟩) fun vl s2 ⟨l, H2, I2, pl, el, e2⟩ => ?_)
  subst el e2
  refine thn (po_none.run pins s2 σ H2 (fun o H3 => o = none ∧ H3 = H2) I2 ⟨rfl, rfl⟩) fun vu s3 ⟨u, H3, I3, pu, eu, e3⟩ => ?_
  subst eu e3
  refine thn (hst.run pins s3 σ H3 (fun o H4 => o = some 2 ∧ H4 = H3) I3 ⟨2, rfl, rfl, rfl⟩) fun vs s4 ⟨o, H4, I4, ps, eo, e4⟩ => ?_
  subst eo e4
  have I5 : Inv X pins σ H4 { s4 with heap := s4.heap.push { cls := .type "slice", data := .fields #[vl, vu, vs] } } := I4.kept (t' := s4.toks) fun b ob q => Heap.get?_push_of_some _ q
  obtain ⟨its, r, ht, hz2⟩ := I5.list hx
  have hlen := r.length
  show wpAny (model X.prog X.w) X.A (subscriptTail e (.Slice lo none (some (.Constant (.int 2) k p1)) p3) (.ref a) (.ref s4.heap.objs.size)) (EP X pins σ Q) X.xe { s4 with heap := s4.heap.push { cls := .type "slice", data := .fields #[vl, vu, vs] } }
  refine tail_any (ops := [.ref a, .ref s4.heap.objs.size]) ht.isList.typeIs (PySem.slot_list_getitem.lookup) ?_ (by with_unfolding_all rfl)
  refine wpAny_getItem_list_slice ht.isList (Heap.IsSliceOf.new _ vl vu vs) pl pu ps (by decide) ?_ (by rw [List.size_toArray]; omega)
  have epick : slicePick its.toArray l none (some 2) = (pickN its (ix2 l xs.length)).toArray := by
    unfold slicePick pickN ix2
    rw [List.size_toArray, hlen]
    simp
  rw [epick]
  refine ⟨.ref _, _, I5.laid (t' := s4.toks) (o := .lst (pickN xs (ix2 l xs.length))) (fun b ob q => Heap.get?_push_of_some _ q) (Nat.le_refl _) ?_, rfl, q _ (I5.hok.fresh (Nat.le_refl _))⟩
  exact ⟨hz, _, 0, pick_vals r _, Heap.get?_push_size _ rfl⟩
theorem pe3_st2 {lo : Option Expr} {lv : Option Int} {k : Nat} {p1 p3 : Pos} (hK : Z.K = X.kw) (ha : PE X a (tE Z ea W)) (hl : PO X lo (fun _ H' R => R lv H')) : PE X (.Subscript a (.Slice lo none (some (.Constant (.int 2) k p1)) p3) pos) (tE Z (eSt2 ea lv) W) := by
  obtain ⟨K, T, ec⟩ := Z
  obtain rfl : K = X.kw := hK
  refine PE.imp (PE.lk (pe_st2 ha hl)) fun σ H Q ⟨m, g, ρ, s, r, h⟩ => ⟨m, g, ρ, s, r, Post.bind h fun m1 H1 d v g1 e1 s1 r1 h1 => ?_⟩
  split at h1
  · rename_i ds
    split at h1
    · rename_i hc
      have r1 : DRep X.kw m1 H1 (.rol ds) v := r1
      rw [DRep] at r1
      obtain ⟨p, vs, rfl, q1, q2⟩ := r1
      have hl := q2.length
      have hpl := pick_len ds vs hl (ix2 lv ds.length)
      rw [hl] at hpl hc h1
      refine ⟨p, vs, rfl, q1.sql, by rw [← hpl, sizeLine_eq]; exact hc, fun p hp => lk_new s1 (pick_reps q2 _) hp h1⟩
    · exact h1.elim
  · exact h1.elim
theorem po_lit {i : Int} {j : Nat} {p : Pos} : PO X (some (.Constant (.int i) j p)) (fun _ H' R => R (some i) H') := by
  have h : PO X (some (.Constant (.int i) j p)) (tPart (tC (.int i))) := po_some pe_int
  exact ⟨fun pins s σ H Q I q => h.run pins s σ H Q I ⟨i, rfl, q⟩⟩
theorem po_no : PO X none (fun _ H' R => R none H') := ⟨fun pins s σ H Q I q => po_none.run pins s σ H Q I q⟩
theorem jrep_rgE {K : KW} {T : List (Addr × Str)} {m0 : List Addr} {H0 : Hp} {n : Nat} : JRep K T m0 H0 ⟨[], (List.range n).map fun k : Nat => D.int (0 + (k : Int) * 2)⟩ (Itc 0 2 n) := by
  intro i m g H e s hd
  have hl : ((List.range n).map fun k : Nat => D.int (0 + (k : Int) * 2)).length = n := by simp
  refine ⟨fun hi => ?_, fun hi => ⟨?_, fun v H' y => ?_⟩⟩
  · have : i = ((List.range n).map fun k : Nat => D.int (0 + (k : Int) * 2)).length := hi
    show n ≤ i
    omega
  · have : i < ((List.range n).map fun k : Nat => D.int (0 + (k : Int) * 2)).length := hi
    show i < n
    omega
  · have hi2 : i < ((List.range n).map fun k : Nat => D.int (0 + (k : Int) * 2)).length := hi
    rw [hl] at hi2
    obtain ⟨rfl, rfl⟩ := y
    refine ⟨.int (0 + (i : Int) * 2), ?_, .refl, s, D.mk_int⟩
    show ((List.range n).map fun k : Nat => D.int (0 + (k : Int) * 2))[i]? = _
    rw [List.getElem?_map, List.getElem?_range hi2]
    rfl
theorem pi3_rgE {p p1 p2 : Pos} {j1 j2 : Nat} (hg : Gl X "range") (hm : X.mg "range" = none) (hb : PE X b (tE Z eb W))
    (hs : starEach [.Constant (.int 0) j1 p1, b, .Constant (.int 2) j2 p2] X.env = (false, eval (.Constant (.int 0) j1 p1) X.env) :: starEach [b, .Constant (.int 2) j2 p2] X.env := by rfl)
    (hs2 : starEach [b, .Constant (.int 2) j2 p2] X.env = (false, eval b X.env) :: starEach [.Constant (.int 2) j2 p2] X.env := by rfl)
    (hs3 : starEach [.Constant (.int 2) j2 p2] X.env = (false, eval (.Constant (.int 2) j2 p2) X.env) :: starEach [] X.env := by rfl)
    (hpl : (backTo pos (starEach [b, .Constant (.int 2) j2 p2] X.env)).any (·.1) = false := by rfl) :
    PI X tg (.Call (.Name "range" p) [.Constant (.int 0) j1 p1, b, .Constant (.int 2) j2 p2] [] pos) (tI3 Z (iRgE eb) W) := by
  refine PI.imp (pi_range3 hg hm (pa3_cons (hx := hs) pe3_int (pa3_cons (hx := hs2) hb (pa3_cons (hx := hs3) pe3_int pa3_nil))) hs hpl) fun σ H R ⟨m, g, ρ, s, r, h⟩ => ⟨m, g, ρ, s, r, ?_⟩
  have h' : Post Z.K Z.T (fun m H => JRep Z.K Z.T m H) (iRgE eb ρ g) m H R (WofX Z W σ) := h
  unfold iRgE at h'
  unfold aCons eC
  simp only [Res.bind_ok]
  cases e1 : eb ρ g with
  | bad => rw [e1] at h'; exact h'.elim
  | er x g1 => rw [e1] at h'; exact h'
  | ok d g1 =>
    rw [e1] at h'
    simp only [Res.bind_ok, aNil] at h' ⊢
    split at h'
    · rename_i j
      split at h'
      · rename_i hj
        intro m1 H1 vs x1 s1 r1
        have r1 : DReps Z.K m1 H1 [.int 0, .int j, .int 2] vs := r1
        rw [DReps] at r1
        obtain ⟨v1, r', rfl, q1, q2⟩ := r1
        obtain ⟨v2, v3, rfl, q3, q4⟩ := reps2 q2
        cases D.int_inv q1; cases D.int_inv q3; cases D.int_inv q4
        refine ⟨0, j, 2, (j.toNat + 1) / 2, rfl, ⟨by decide, by decide, ?_, ?_⟩, h' m1 H1 (Itc 0 2 ((j.toNat + 1) / 2)) x1 s1 jrep_rgE⟩
        · unfold Builtin.Range.small Builtin.Range.rangeSize
          simp only [Builtin.Range.rangeFitsLong, Bool.and_eq_true, Bool.or_eq_true, decide_eq_true_eq, beq_iff_eq]
          simp only [show ((2 : Int) > 0) = True by simp, if_true, Bool.and_eq_true, decide_eq_true_eq]
          refine ⟨⟨⟨⟨by omega, by omega⟩, by omega⟩, ?_⟩, .inr ⟨by omega, by omega⟩⟩
          split <;> omega
        · unfold Builtin.Range.rangeSize
          rw [if_pos (by decide)]
          obtain ⟨jn, rfl⟩ := Int.eq_ofNat_of_zero_le hj.1
          rw [Int.toNat_natCast]
          split <;> omega
      · exact h'.elim
    · exact h'.elim
end
section
variable {Q : D → GH → Prop} {QI : Src → GH → Prop} {W : Exc → GH → Prop} {ρ : Rho} {g : GH}
@[simp] theorem wp_iStrD (a : EV) : wp (iStrD a ρ g) QI W = wp (a ρ g) (fun d g1 => ∃ x, d = .str x ∧ QI ⟨[], charsD x⟩ g1) W := by
  simp only [iStrD, wp_bind]
  congr 1
  funext d g1
  cases d <;> simp
@[simp] theorem wp_iRgE (a : EV) : wp (iRgE a ρ g) QI W = wp (a ρ g) (fun d g1 => ∃ j, d = .int j ∧ (0 ≤ j ∧ j ≤ 1000000) ∧ QI ⟨[], (List.range ((j.toNat + 1) / 2)).map fun k : Nat => .int (0 + (k : Int) * 2)⟩ g1) W := by
  simp only [iRgE, wp_bind]
  congr 1
  funext d g1
  cases d with
  | int j => by_cases h : 0 ≤ j ∧ j ≤ 1000000 <;> simp [h]
  | _ => simp
@[simp] theorem wp_eSplit (a b : EV) : wp (eSplit a b ρ g) Q W = wp (a ρ g) (fun d g1 => ∃ x, d = .str x ∧ wp (b ρ g1) (fun e g2 => ∃ y, e = .str y ∧ ((y.length == 0) = false ∧ x.length + 2 ≤ 16777216) ∧ Q (.rol ((Txt.split x y).map D.str)) g2) W) W := by
  simp only [eSplit, wp_bind]
  congr 1
  funext d g1
  cases d with
  | str x =>
    simp only [wp_bind]
    simp only [D.str.injEq]
    refine propext ⟨fun h => ⟨x, rfl, h.imp (fun e g2 q => ?_) fun _ _ z => z⟩, fun ⟨x', ex, h⟩ => ?_⟩
    · cases e with
      | str y =>
        simp only at q
        split at q
        · exact ⟨y, rfl, by assumption, q⟩
        · exact q.elim
      | _ => exact q.elim
    · subst ex
      refine h.imp (fun e g2 q => ?_) fun _ _ z => z
      obtain ⟨y, rfl, hc, q⟩ := q
      simp only
      rw [if_pos hc]
      exact q
  | _ => simp
@[simp] theorem wp_eStrip (a b : EV) : wp (eStrip a b ρ g) Q W = wp (a ρ g) (fun d g1 => ∃ x, d = .str x ∧ wp (b ρ g1) (fun e g2 => ∃ y, e = .str y ∧ x.length ≤ 16777216 ∧ Q (.str (Txt.stripChars x y)) g2) W) W := by
  simp only [eStrip, wp_bind]
  congr 1
  funext d g1
  cases d with
  | str x =>
    simp only [wp_bind]
    simp only [D.str.injEq]
    refine propext ⟨fun h => ⟨x, rfl, h.imp (fun e g2 q => ?_) fun _ _ z => z⟩, fun ⟨x', ex, h⟩ => ?_⟩
    · cases e with
      | str y =>
        simp only at q
        split at q
        · exact ⟨y, rfl, by assumption, q⟩
        · exact q.elim
      | _ => exact q.elim
    · subst ex
      refine h.imp (fun e g2 q => ?_) fun _ _ z => z
      obtain ⟨y, rfl, hc, q⟩ := q
      simp only
      rw [if_pos hc]
      exact q
  | _ => simp
@[simp] theorem wp_eJoin (a b : EV) : wp (eJoin a b ρ g) Q W = wp (a ρ g) (fun d g1 => ∃ x, d = .str x ∧ wp (b ρ g1) (fun e g2 => ∃ ds ys, e = .rol ds ∧ strsOf ds = some ys ∧ (ys.map (·.length)).sum + ys.length * x.length ≤ 16777216 ∧ Q (.str (Txt.join x ys)) g2) W) W := by
  simp only [eJoin, wp_bind]
  congr 1
  funext d g1
  cases d with
  | str x =>
    simp only [wp_bind]
    simp only [D.str.injEq]
    refine propext ⟨fun h => ⟨x, rfl, h.imp (fun e g2 q => ?_) fun _ _ z => z⟩, fun ⟨x', ex, h⟩ => ?_⟩
    · cases e with
      | rol ds =>
        simp only at q
        split at q
        · rename_i ys e3
          split at q
          · exact ⟨ds, ys, rfl, e3, by assumption, q⟩
          · exact q.elim
        · exact q.elim
      | _ => exact q.elim
    · subst ex
      refine h.imp (fun e g2 q => ?_) fun _ _ z => z
      obtain ⟨ds, ys, rfl, e3, hc, q⟩ := q
      simp only [e3]
      rw [if_pos hc]
      exact q
  | _ => simp
@[simp] theorem wp_eSlS (a : EV) (lo hi : OV) : wp (eSlS a lo hi ρ g) Q W = wp (a ρ g) (fun d g1 => wp (lo ρ g1) (fun l g2 => wp (hi ρ g2) (fun h g3 => wpo (opSlS d l h g3) Q) W) W) W := by simp [eSlS]
@[simp] theorem slS_str (z : Str) (lo hi : Option Int) : wpo (opSlS (.str z) lo hi g) Q = (z.length ≤ 16777216 ∧ Q (.str (cutS z lo hi)) g) := by
  show wpo (if z.length ≤ 16777216 then some (.str (cutS z lo hi), g) else none) Q = _
  rw [wpo_if]
@[simp] theorem wp_eSt2 (a : EV) (lo : Option Int) : wp (eSt2 a lo ρ g) Q W = wp (a ρ g) (fun d g1 => ∃ ds, d = .rol ds ∧ (pickN ds (ix2 lo ds.length)).length ≤ 16777216 ∧ Q (.rol (pickN ds (ix2 lo ds.length))) g1) W := by
  simp only [eSt2, wp_bind]
  congr 1
  funext d g1
  cases d with
  | rol ds => by_cases h : (pickN ds (ix2 lo ds.length)).length ≤ 16777216 <;> simp [h]
  | _ => simp
@[simp] theorem notInS_str (c : Nat) (z : Str) : wpo (opNotInS (.str ⟨#[c]⟩) (.str z) g) Q = Q (.bl (!decide (c ∈ z.cps.toList))) g := rfl
theorem intS_str {a : Str} {n : Int} (h : PySem.intText? a = some n) (hl : a.length ≤ 640) : wpo (fIntS [.str a] g) Q = Q (.int n) g := by
  simp [fIntS, h, hl]
end
end L3

/-! L4e: enumerate over tuples (and over lists that nobody writes). -/
namespace L3
open PySem PySem.Spec PyProof.Rows L2
set_option maxHeartbeats 1000000 in
theorem meets_enum_tup (l : Addr) (items : Array Value) :
    Meets (Builtin.«enumerate.__new__» ⟨[.type "enumerate", .ref l], []⟩) (fun _ R s => s.heap.IsTuple l items ∧
      R (.ok (.ret (.ref (s.heap.push { cls := .type "tuple_iterator", data := .fields #[.ref l, .int 0 0] }).objs.size)))
        { s with heap := (s.heap.push { cls := .type "tuple_iterator", data := .fields #[.ref l, .int 0 0] }).push { cls := .type "enumerate", data := .fields #[.none, .bool false, .ref s.heap.objs.size, rawInt 0, .none, .none] } }) :=
  .of_wp fun prog w A R s h => by
    obtain ⟨hp, g, d, tk, os⟩ := s; obtain ⟨h1, h⟩ := h
    have hsub := sub_enumerate
    have q1 : ∀ {A' : Around} {E : Value → Shared → Prop} {Q : Value → Shared → Prop}, Q (.ref hp.objs.size) ⟨hp.push { cls := .type "tuple_iterator", data := .fields #[.ref l, .int 0 0] }, g, d, tk, os⟩ → wpAny (model prog w) A' (pyIter (.ref l)) Q E ⟨hp, g, d, tk, os⟩ :=
      fun q => wpAny_pyIter_tuple (s := ⟨hp, g, d, tk, os⟩) h1 q
    wp_walk using q1
    refine wpAny_stack_any fun st => wpAny_pure ?_
    split
    · rename_i c _ _ _ _ _
      cases (c == Value.type "enumerate")
      · wp_walk using q1
        exact ⟨_, rfl, h⟩
      · wp_walk using q1
        exact ⟨_, rfl, h⟩
    · wp_walk using q1
      exact ⟨_, rfl, h⟩
theorem call_enum_tup {prog : Program} {w : World} {A : Around} {E : Value → Shared → Prop} {s : Shared} {l : Addr} {items : Array Value} {Q : Value → Shared → Prop} (hL : s.heap.IsTuple l items)
    (h : ∀ h', IsEnum h' (s.heap.objs.size + 1) s.heap.objs.size 0 .none → h'.IsTupleIter s.heap.objs.size l 0 → h'.objs.size = s.heap.objs.size + 2 →
      (∀ b o, s.heap.get? b = some o → h'.get? b = some o) → Q (.ref (s.heap.objs.size + 1)) { s with heap := h' }) :
    wpAny (model prog w) A (call (.type "enumerate") [.ref l]) Q E s := by
  refine callType_new F.called_enumerate (by decide) (F.typeCall_enumerate_1 _) (F.newCall_enumerate_1 _) (fun obj => F.args_object_init_2 obj _) F.entry_enumerate_new
    (meets_enum_tup l items) ⟨hL, ?_⟩
  have hz : (s.heap.push { cls := .type "tuple_iterator", data := .fields #[.ref l, .int 0 0] }).objs.size = s.heap.objs.size + 1 := Heap.size_push ..
  show _ ∧ _
  rw [hz]
  have he : IsEnum ((s.heap.push { cls := .type "tuple_iterator", data := .fields #[.ref l, .int 0 0] }).push
      { cls := .type "enumerate", data := .fields #[.none, .bool false, .ref s.heap.objs.size, rawInt 0, .none, .none] }) (s.heap.objs.size + 1) s.heap.objs.size 0 .none := by
    have := Heap.get?_push_size (s.heap.push { cls := .type "tuple_iterator", data := .fields #[.ref l, .int 0 0] })
      (o := { cls := .type "enumerate", data := .fields #[.none, .bool false, .ref s.heap.objs.size, rawInt 0, .none, .none] }) rfl
    rw [hz] at this; exact this
  refine ⟨⟨_, he, rfl⟩, h _ he ⟨_, Heap.get?_push_of_some _ (Heap.get?_push_size _ rfl), rfl, rfl⟩ (by rw [Heap.size_push, hz]) fun b o x => Heap.get?_push_of_some _ (Heap.get?_push_of_some _ x)⟩
/-- the tuple at a, each item in a new pair -/
def IteT (K : PySem.W.Frag) (a : Addr) : It :=
  ⟨fun i H => ∃ (xs : List V) (x : V), SqT K H a xs ∧ xs[i]? = some x, fun i H v H' => ∃ T x, v = .ref T ∧ H T = none ∧ H' = upd H T (.tup [.int (i : Nat), x]) ∧ ∀ xs, SqT K H a xs → xs[i]? = some x, fun i H => ∃ xs : List V, SqT K H a xs ∧ xs.length ≤ i⟩
theorem turn_enumT {P : Program} {w : World} {K : PySem.W.Frag} {elts : List Expr} {kk : Nat} {tpos : Pos} (a e it : Addr) (hai : a ≠ it) (hea : e ≠ a) :
    Turn P w K (.Tuple elts kk tpos) (IteT K a) [e, it] e (fun i h => (∃ old, IsEnum h e it ((i : Nat) : Int) old) ∧ h.IsTupleIter it a i ∧ e ≠ it) where
  mem := by simp
  obj := fun i h st b hb => by
    obtain ⟨⟨old, he⟩, ⟨o, ho, hc, hd⟩, _⟩ := st
    have e' : b = e ∨ b = it := by simpa using hb
    rcases e' with z | z
    · rw [z]; exact ⟨_, he, fun v q => nomatch q⟩
    · rw [z]; exact ⟨o, ho, fun v q => by rw [hd] at q; cases q⟩
  keep := fun i h h' st k => let ⟨⟨old, he⟩, hi, hne⟩ := st; ⟨⟨old, k e (by simp) _ he⟩, hi.at fun o q => k it (by simp) o q, hne⟩
  item := by
    intro X hP hw hK hc i pins s σ H E I hf st hg
    subst hP hw hK
    obtain ⟨⟨old, he⟩, hit, hne⟩ := st
    obtain ⟨xs, x, hq, hx⟩ := hg
    obtain ⟨its, rv, p, hz⟩ := I.tuple hq
    obtain ⟨u, hu, ru⟩ := rv.get hx
    have hel : e < s.heap.objs.size := Heap.lt_size he
    have hil : it < s.heap.objs.size := by obtain ⟨_, q, _⟩ := hit; exact Heap.lt_size q
    have hlt : i < its.toArray.size := by
      have := (List.getElem?_eq_some_iff.mp hu).1
      simpa using this
    refine wpAny_pyNext_enum_itemD (fp := [it, a]) (Draws.tuple (show X.A.in1.handled = none from I.ok.hd hc) it a hai its.toArray) he ⟨hit, p⟩ hlt hne (by simp [hne, hea]) fun x' h' tk hPx ho hst' hT hsz hk => ?_
    obtain rfl : u = x' := by
      have : its.toArray[i]? = some u := by simpa using hu
      rw [this] at hPx
      exact Option.some.inj hPx
    have hit' := hst'.1
    refine ⟨_, rfl, wpAny_letOwnedTupleGo_enum (s := { s with heap := h', toks := tk + 1 }) ho fun h'' he' sb => ?_⟩
    have hT2 : h''.get? s.heap.objs.size = some { cls := .type "tuple", data := .seq #[.int i tk, u] } := (sb.2 _ (Nat.ne_of_gt hel)).trans hT
    have new : ObjOk X.prog X.w (upd H s.heap.objs.size (.tup [.int (i : Nat), x])) h'' s.heap.objs.size (.tup [.int (i : Nat), x]) :=
      ⟨by show 2 ≤ sizeLine; decide, [.int i tk, u], .cons ⟨_, rfl⟩ (.cons ru .nil), ⟨_, hT2, rfl, _, rfl⟩⟩
    have I1 : Inv X pins σ (upd H s.heap.objs.size (.tup [.int (i : Nat), x])) { s with heap := h'', toks := tk + 1 } :=
      I.turnedNew (ch := [e, it]) (fun b ob hb q => (sb.2 b (fun z => hb (by simp [z]))).trans (hk b ob (fun z => hb (by simp [z])) (fun z => hb (by simp [z])) q)) hf (Nat.le_refl _) new
    refine ⟨.ref s.heap.objs.size, _, I1, rfl, ⟨_, x, rfl, I.hok.fresh (Nat.le_refl _), rfl, fun ys hy => by rw [I.tuple_inj hy hq]; exact hx⟩, ⟨⟨u, ?_⟩, hit'.at fun o q => (sb.2 it (Ne.symm hne)).trans q, hne⟩, fun b hb => ?_⟩
    · have e1 : ((i + 1 : Nat) : Int) = (i : Int) + 1 := by omega
      rw [e1]; exact he'
    · have hb' : b < s.heap.objs.size := by
        have e' : b = e ∨ b = it := by simpa using hb
        rcases e' with z | z
        · rw [z]; exact hel
        · rw [z]; exact hil
      rw [upd_ne (Nat.ne_of_lt hb')]
      exact (hf b hb).1
  done := by
    intro X hP hw hK hc i pins s σ H E I hf st hg
    subst hP hw hK
    obtain ⟨⟨old, he⟩, hit, hne⟩ := st
    obtain ⟨xs, hq, hx⟩ := hg
    obtain ⟨its, rv, p, hz⟩ := I.tuple hq
    obtain ⟨f0, f1, f2, f3, f4, f5⟩ := hf it (by simp)
    have hl := rv.length
    have D : Draws X.prog X.w X.A.in1 it [it, a] i (fun _ _ => True) (fun k h => k = i ∧ h.IsTupleIter it a i ∧ h.IsTuple a its.toArray) := {
      live := fun _ _ st => let ⟨o, ho, _⟩ := st.2.1; ⟨o, ho⟩
      frame := fun _ _ _ st hk => ⟨st.1, st.2.1.at fun o e => hk it (by simp) o e, st.2.2.at fun o e => hk a (by simp) o e⟩
      item := fun k s Q E hi st hQ => by
        obtain ⟨rfl, _⟩ := st
        omega
      done := fun s Q E st hE => wpAny_nextOf_tuple_end (show X.A.in1.handled = none from I.ok.hd hc) st.2.1 st.2.2 (by simp; omega) hE }
    exact wpAny_pyNext_enum_endD D he ⟨rfl, hit, p⟩ fun h' eb => ⟨rfl, I.turned (t' := s.toks) (fun b o hb q => eb b o hb q) f0 f1 f3 f4 f5⟩
  self := fun A i s Q E st h => let ⟨⟨_, he⟩, _⟩ := st; wpAny_pyIter_enum he h
def iEnumT (K : PySem.W.Frag) (ta : TA) : TI := fun σ H R => ta σ H fun vs H1 => ∃ a xs, vs = [.ref a] ∧ ((SqL K H1 a xs ∧ R (Ite K a) H1) ∨ (SqT K H1 a xs ∧ R (IteT K a) H1))
theorem pi_enumT {X : Cx} {e : Expr} {ta : TA} {p pos tpos : Pos} {elts : List Expr} {kk : Nat} (hg : Gl X "enumerate") (hm : X.mg "enumerate" = none) (ha : PA X [e] ta) (hs : starEach [e] X.env = [(false, eval e X.env)] := by rfl) :
    PI X (.Tuple elts kk tpos) (.Call (.Name "enumerate" p) [e] [] pos) (iEnumT X.K ta) := by
  refine ⟨fun pins s σ H R I h => ?_⟩
  refine Call_ (ld_blt I hg hm boot_enumerate (PyProof.Rows.callWith_type1 (thn (ha.run pos pins s σ H _ I h) fun us s1 ⟨vs, H1, I1, r1, q1⟩ => ?_) hs rfl))
  obtain ⟨a, xs, ex, q1⟩ := q1
  subst ex
  cases r1 with
  | cons r rr =>
    cases rr
    cases r
    have fresh2 : ∀ b, b ∈ [s1.heap.objs.size + 1, s1.heap.objs.size] → FpOk X pins H1 b := fun b hb => by
      have e' : b = s1.heap.objs.size + 1 ∨ b = s1.heap.objs.size := by simpa using hb
      have hle : s1.heap.objs.size ≤ b := by
        rcases e' with z | z
        · rw [z]; exact Nat.le_add_right _ _
        · rw [z]; exact Nat.le_refl _
      exact I1.fpOk hle (I1.hok.fresh hle)
    rcases q1 with ⟨hq, q⟩ | ⟨hq, q⟩
    · obtain ⟨its, rv, p', hz⟩ := I1.list hq
      refine call_enumerate_list p'.isList fun h' he hit hsz hk => wpAny_pyIter_enum he ?_
      have I2 : Inv X pins σ H1 { s1 with heap := h' } := I1.kept (t' := s1.toks) hk
      exact ⟨s1.heap.objs.size + 1, [s1.heap.objs.size + 1, s1.heap.objs.size], _, _, H1, rfl, I2, turn_enum a (s1.heap.objs.size + 1) s1.heap.objs.size, ⟨⟨.none, he⟩, hit, Nat.succ_ne_self _⟩, fresh2, q⟩
    · obtain ⟨its, rv, p', hz⟩ := I1.tuple hq
      obtain ⟨o1, ho1, _⟩ := id p'
      have hlt : a < s1.heap.objs.size := Heap.lt_size ho1
      refine call_enum_tup p' fun h' he hit hsz hk => wpAny_pyIter_enum he ?_
      have I2 : Inv X pins σ H1 { s1 with heap := h' } := I1.kept (t' := s1.toks) hk
      exact ⟨s1.heap.objs.size + 1, [s1.heap.objs.size + 1, s1.heap.objs.size], _, _, H1, rfl, I2, turn_enumT a (s1.heap.objs.size + 1) s1.heap.objs.size (Nat.ne_of_lt hlt) (Nat.ne_of_gt (Nat.lt_succ_of_lt hlt)), ⟨⟨.none, he⟩, hit, Nat.succ_ne_self _⟩, fresh2, q⟩
def iEnumV (a : EV) : IV := fun ρ g => (a ρ g).bind fun d g1 => match d with
  | .tup ds => .ok ⟨[], enumD 0 ds⟩ g1
  | .rol ds => .ok ⟨[], enumD 0 ds⟩ g1
  | _ => .bad
section
variable {X : Cx} {Z : Row} {W : WX} {pos : Pos} {tg a b : Expr} {ea eb : EV}
theorem enum_item {K : KW} {T : List (Addr × Str)} {m : List Addr} {g : GH} {H : Hp} {i : Nat} {T0 : Addr} {w : V} {ds : List D} {xs : List V} (s : S K T m g H) (r : DReps K m H ds xs) (e1 : xs[i]? = some w) (hT : H T0 = none) :
    ∃ d, (enumD 0 ds)[i]? = some d ∧ Ext m H m (upd H T0 (.tup [.int (i : Nat), w])) ∧ S K T m g (upd H T0 (.tup [.int (i : Nat), w])) ∧ DRep K m (upd H T0 (.tup [.int (i : Nat), w])) d (.ref T0) := by
  obtain ⟨d, h5, h6⟩ := r.get' e1
  obtain ⟨e2, s2⟩ := s.laid (u := .tup [.int (i : Nat), w]) hT
  refine ⟨.tup [.int (i : Nat), d], ?_, e2, s2, ?_⟩
  · have := enumD_get 0 i ds d h5
    rw [Nat.zero_add] at this
    exact this
  · rw [DRep]
    refine ⟨T0, [.int (i : Nat), w], rfl, .inl (.inl upd_same), ?_⟩
    rw [DReps]
    refine ⟨_, _, rfl, D.mk_int, ?_⟩
    rw [DReps]
    exact ⟨_, _, rfl, h6.mono e2, by rw [DReps]⟩
theorem jrep_enumT {K : KW} {T : List (Addr × Str)} {m0 : List Addr} {H0 : Hp} {a0 : Addr} {ds : List D} {xs : List V} (h1 : SqT K.K H0 a0 xs) (r1 : DReps K m0 H0 ds xs) : JRep K T m0 H0 ⟨[], enumD 0 ds⟩ (IteT K.K a0) := by
  intro i m g H e s hd
  have q1 := e.rd (K := K) h1
  have l1 := r1.length
  refine ⟨fun hi => ⟨xs, q1, by rw [hi]; show xs.length ≤ (enumD 0 ds).length; rw [enumD_len, l1]; exact Nat.le_refl _⟩, fun hi => ?_⟩
  have hi' : i < ds.length := by
    have : i < (enumD 0 ds).length := hi
    rw [enumD_len] at this
    exact this
  refine ⟨⟨xs, xs[i]'(by omega), q1, by simp⟩, fun x H' y => ?_⟩
  obtain ⟨T0, w, rfl, hT, rfl, y⟩ := y
  exact enum_item s (DReps.mono e _ _ r1) (y xs q1) hT
theorem jrep_enumR {K : KW} {T : List (Addr × Str)} {m0 : List Addr} {H0 : Hp} {a0 : Addr} {ds : List D} {xs : List V} (h1 : RoL H0 a0 xs) (r1 : DReps K m0 H0 ds xs) : JRep K T m0 H0 ⟨[], enumD 0 ds⟩ (Ite K.K a0) := by
  intro i m g H e s hd
  have q1 := (e.ro h1).sql (K := K.K)
  have l1 := r1.length
  refine ⟨fun hi => ⟨xs, q1, by rw [hi]; show xs.length ≤ (enumD 0 ds).length; rw [enumD_len, l1]; exact Nat.le_refl _⟩, fun hi => ?_⟩
  have hi' : i < ds.length := by
    have : i < (enumD 0 ds).length := hi
    rw [enumD_len] at this
    exact this
  refine ⟨⟨xs, xs[i]'(by omega), q1, by simp⟩, fun x H' y => ?_⟩
  obtain ⟨T0, w, rfl, hT, rfl, y⟩ := y
  exact enum_item s (DReps.mono e _ _ r1) (y xs q1) hT
theorem pi3_enumV {e : Expr} {p : Pos} {elts : List Expr} {kk : Nat} {tpos : Pos} (hK : Z.K = X.kw) (hg : Gl X "enumerate") (hm : X.mg "enumerate" = none) (ha : PE X e (tE Z ea W)) (hs : starEach [e] X.env = [(false, eval e X.env)] := by rfl) :
    PI X (.Tuple elts kk tpos) (.Call (.Name "enumerate" p) [e] [] pos) (tI3 Z (iEnumV ea) W) := by
  obtain ⟨K, T, ec⟩ := Z
  obtain rfl : K = X.kw := hK
  refine PI.imp (pi_enumT hg hm (pa3_cons (hx := hs) ha pa3_nil) hs) fun σ H R ⟨m, g, ρ, s, r, h⟩ => ⟨m, g, ρ, s, r, ?_⟩
  have h' : Post X.kw T (fun m H => JRep X.kw T m H) (iEnumV ea ρ g) m H R (WofX ⟨X.kw, T, ec⟩ W σ) := h
  unfold iEnumV at h'
  unfold aCons aNil
  cases e1 : ea ρ g with
  | bad => rw [e1] at h'; exact h'.elim
  | er x g1 => rw [e1] at h'; exact h'
  | ok d g1 =>
    rw [e1] at h'
    simp only [Res.bind_ok] at h' ⊢
    split at h'
    · rename_i ds
      intro m1 H1 vs x1 s1 r1
      obtain ⟨v, rfl, r2⟩ := reps1 r1
      rw [DRep] at r2
      obtain ⟨a0, xs, rfl, q1, q2⟩ := r2
      exact ⟨a0, xs, rfl, .inr ⟨q1, h' m1 H1 (IteT X.K a0) x1 s1 (jrep_enumT (K := X.kw) q1 q2)⟩⟩
    · rename_i ds
      intro m1 H1 vs x1 s1 r1
      obtain ⟨v, rfl, r2⟩ := reps1 r1
      rw [DRep] at r2
      obtain ⟨a0, xs, rfl, q1, q2⟩ := r2
      exact ⟨a0, xs, rfl, .inl ⟨q1.sql, h' m1 H1 (Ite X.K a0) x1 s1 (jrep_enumR (K := X.kw) q1 q2)⟩⟩
    · exact h'.elim
end
section
variable {Q : Src → GH → Prop} {W : Exc → GH → Prop} {ρ : Rho} {g : GH}
@[simp] theorem wp_iEnumV (a : EV) : wp (iEnumV a ρ g) Q W = wp (a ρ g) (fun d g1 => ∃ ds, (d = .tup ds ∨ d = .rol ds) ∧ Q ⟨[], enumD 0 ds⟩ g1) W := by
  simp only [iEnumV, wp_bind]
  congr 1
  funext d g1
  cases d <;> simp
end
end L3

/-! The bodies of law 12 in the language, printed by gen.py. -/
namespace L3
open PySem L2
inductive F where
  | is_int
  | rules_so
  | need_rule
  | is_rule
  | text_of
  | number_in
  | rule_in
  | rule_text
  | read_rule
  | law_flask_of
  | law_sip
  | law_some
  | law_code
  | law_read
  | law_writing
  | law_tried
  | law_bent
  | law
abbrev Phi := F → List D → GH → Res D
def b_is_int (Φ : Phi) : SV := (sRet (eAnd (eIsB .tint (eVar 0)) (eAnd (eNot (eIsB .tbool (eVar 0))) (eChain opLe opLe (eVar 1) (eVar 0) (eVar 2)))))
def b_rules_so (Φ : Phi) : SV := (sSeq (sIf (tOr3 (tNot3 (tB3 (eIsB .ttuple (eVar 0)))) (tB3 (eBin opNe (eBi fLenV (aCons (eVar 0) aNil)) (eC (.int 4))))) (sRet (eC (.bl false))) sNil)
  (sSeq (sIf (tOr3 (tNot3 (tB3 (eCall (Φ .is_int) (aCons (eBin opIx (eVar 0) (eC (.int 0))) (aCons (eC (.int 0)) (aCons (eC (.int 5)) aNil)))))) (tNot3 (tB3 (eCall (Φ .is_int) (aCons (eBin opIx (eVar 0) (eC (.int 1))) (aCons (eC (.int 0)) (aCons (eC (.int 4)) aNil))))))) (sRet (eC (.bl false))) sNil)
  (sSeq (sIf (tOr3 (tNot3 (tB3 (eIsB .ttuple (eBin opIx (eVar 0) (eC (.int 2)))))) (tOr3 (tB3 (eBin opGt (eBi fLenV (aCons (eBin opIx (eVar 0) (eC (.int 2))) aNil)) (eC (.int 2)))) (tNot3 (tB3 (eCall (Φ .is_int) (aCons (eBin opIx (eVar 0) (eC (.int 3))) (aCons (eC (.int 0)) (aCons (eC (.int 2)) aNil)))))))) (sRet (eC (.bl false))) sNil)
  (sSeq (sIf (tB3 (eBin opNe (eCompV (iSeq (eBin opIx (eVar 0) (eC (.int 2)))) (.one 1) (tNot3 (tB3 (eCall (Φ .is_int) (aCons (eVar 1) (aCons (eC (.int 1)) (aCons (eC (.int 12)) aNil)))))) (eVar 1) [1]) (eLstV aNil))) (sRet (eC (.bl false))) sNil)
  (sRet (eBin opEq (eBi fListV (aCons (eBin opIx (eVar 0) (eC (.int 2))) aNil)) (eSortSet (eBin opIx (eVar 0) (eC (.int 2))))))))))
def b_need_rule (Φ : Phi) : SV := (sIf (tNot3 (tB3 (eCall (Φ .rules_so) (aCons (eVar 0) aNil)))) (sRaise 0) sNil)
def b_is_rule (Φ : Phi) : SV := (sRet (eCall (Φ .rules_so) (aCons (eVar 0) aNil)))
def b_text_of (Φ : Phi) : SV := (sSeq (sAsg (.one 1) (eLstV (aCons (eC (.str "changes")) (aCons (eBi fStr (aCons (eBin opIx (eVar 0) (eC (.int 0))) aNil)) (aCons (eC (.str "windows")) (aCons (eBi fStr (aCons (eBin opIx (eVar 0) (eC (.int 1))) aNil)) (aCons (eC (.str "knocks")) (aCons (eBi fStr (aCons (eBin opIx (eVar 0) (eC (.int 3))) aNil)) aNil))))))))
  (sRet (eJoin (eC (.str " ")) (eBin opAddV (eVar 1) (eCompV (iSeq (eBin opIx (eVar 0) (eC (.int 2)))) (.one 2) tYes3 (eBin opAddV (eC (.str "pause ")) (eBi fStr (aCons (eVar 2) aNil))) [2])))))
def b_number_in (Φ : Phi) : SV := (sSeq (sIf (tOr3 (tNot3 (tB3 (eChain opLe opLe (eC (.int 1)) (eBi fLenV (aCons (eVar 0) aNil)) (eC (.int 2))))) (tB3 (eBin opNe (eCompV (iStrD (eVar 0)) (.one 1) (tB3 (eBin opNotInS (eVar 1) (eC (.str "0123456789")))) (eVar 1) [1]) (eLstV aNil)))) (sRet (eC .non)) sNil)
  (sRet (eIf (tB3 (eBin opEq (eBi fStr (aCons (eBi fIntS (aCons (eVar 0) aNil)) aNil)) (eVar 0))) (eBi fIntS (aCons (eVar 0) aNil)) (eC .non))))
def b_rule_in (Φ : Phi) : SV := (sSeq (sIf (tNot3 (tB3 (eIsB .tstr (eVar 0)))) (sRaise 8) sNil)
  (sSeq (sAsg (.one 1) (eSplit (eVar 0) (eC (.str " "))))
  (sSeq (sIf (tOr3 (tB3 (eBin opNe (eSlV (eSt2 (eVar 1) none) oNone (oSome (eC (.int 3)))) (eLstV (aCons (eC (.str "changes")) (aCons (eC (.str "windows")) (aCons (eC (.str "knocks")) aNil)))))) (tB3 (eBin opEq (eBin opMod (eBi fLenV (aCons (eVar 1) aNil)) (eC (.int 2))) (eC (.int 1))))) (sRaise 8) sNil)
  (sSeq (sAsg (.one 2) (eCompV (iSeq (eSt2 (eVar 1) (some 1))) (.one 4) tYes3 (eCall (Φ .number_in) (aCons (eVar 4) aNil)) [4]))
  (sSeq (sAsg (.one 3) (eTup (aCons (eBin opIx (eVar 2) (eC (.int 0))) (aCons (eBin opIx (eVar 2) (eC (.int 1))) (aCons (eBi fTuple (aCons (eSlV (eVar 2) (oSome (eC (.int 3))) oNone) aNil)) (aCons (eBin opIx (eVar 2) (eC (.int 2))) aNil))))))
  (sSeq (sIf (tOr3 (tB3 (eBin opNe (eCompV (iSeq (eSt2 (eVar 1) (some 6))) (.one 4) (tB3 (eBin opNe (eVar 4) (eC (.str "pause")))) (eVar 4) [4]) (eLstV aNil))) (tNot3 (tB3 (eCall (Φ .rules_so) (aCons (eVar 3) aNil))))) (sRaise 8) sNil)
  (sRet (eVar 3))))))))
def b_rule_text (Φ : Phi) : SV := (sSeq (sExp (eCall (Φ .need_rule) (aCons (eVar 0) aNil)))
  (sRet (eCall (Φ .text_of) (aCons (eVar 0) aNil))))
def b_read_rule (Φ : Phi) : SV := (sRet (eCall (Φ .rule_in) (aCons (eVar 0) aNil)))
def b_law_flask_of (Φ : Phi) : SV := (sSeq (sAsg (.one 2) (eBin opAddV (eBin opMul (eC (.int 37003)) (eVar 1)) (eC (.int 73))))
  (sSeq (sIf (tB3 (eBin opLt (eVar 1) (eBi fLenV (aCons (eVar 0) aNil)))) (sAsg (.one 2) (eBin opMod (eBi fAbs (aCons (eBi fInt (aCons (eBin opIx (eVar 0) (eVar 1)) aNil)) aNil)) (eBin opMul (eBin opMul (eBin opMul (eBin opPow (eC (.int 10)) (eC (.int 60))) (eBin opPow (eC (.int 10)) (eC (.int 60)))) (eBin opPow (eC (.int 10)) (eC (.int 60)))) (eBin opPow (eC (.int 10)) (eC (.int 60)))))) (sIf (tB3 (eBin opGt (eBi fLenV (aCons (eVar 0) aNil)) (eC (.int 0)))) (sAsg (.one 2) (eBin opAddV (eVar 2) (eBin opMod (eBi fAbs (aCons (eBi fInt (aCons (eBin opIx (eVar 0) (eC (.int 0))) aNil)) aNil)) (eC (.int 1000291))))) sNil))
  (sRet (eLst (aCons (eIf (tB3 (eBin opGe (eVar 2) (eBin opPow (eC (.int 10)) (eC (.int 18))))) (eVar 2) (eC (.int 0))) (aCons (eBin opAddV (eBin opMod (eBi fInt (aCons (eBin opAddV (eBin opAddV (eBin opMul (eBin opMod (eVar 2) (eC (.int 2147482577))) (eC (.int 59))) (eBin opMul (eC (.int 149)) (eVar 1))) (eC (.int 97))) aNil)) (eC (.int 2147482577))) (eC (.int 1))) aNil))))))
def b_law_sip_1 (Φ : Phi) : SV := (sSeq (sSetIx opSet (eVar 0) (eC (.int 1)) (eBin opMod (eBi fInt (aCons (eBin opAddV (eBin opMul (eBin opIx (eVar 0) (eC (.int 1))) (eC (.int 16381))) (eC (.int 157))) aNil)) (eC (.int 2147482577))))
  (sSeq (sAsg (.one 2) (eBin opAddV (eBin opMul (eVar 2) (eC (.int 8192))) (eBin opMod (eBi fInt (aCons (eBin opDiv (eBin opIx (eVar 0) (eC (.int 1))) (eC (.int 65809))) aNil)) (eC (.int 8192)))))
  (sAsg (.one 3) (eBin opMul (eVar 3) (eC (.int 8192))))))
def b_law_sip (Φ : Phi) : SV := (sSeq (sIf (tB3 (eBin opGt (eBin opIx (eVar 0) (eC (.int 0))) (eC (.int 0)))) (sSeq (sAsg (.one 2) (eBin opMod (eBi fInt (aCons (eBin opIx (eVar 0) (eC (.int 0))) aNil)) (eVar 1)))
  (sSeq (sSetIx opSet (eVar 0) (eC (.int 0)) (eBin opDiv (eBin opIx (eVar 0) (eC (.int 0))) (eVar 1)))
  (sRet (eVar 2)))) sNil)
  (sSeq (sAsg (.tup [2, 3]) (eTup (aCons (eC (.int 0)) (aCons (eC (.int 1)) aNil))))
  (sSeq (whileL (tOr3 (tB3 (eBin opLt (eVar 3) (eVar 1))) (tB3 (eBin opEq (eVar 3) (eC (.int 1))))) (b_law_sip_1 Φ) 1000000)
  (sRet (eBin opMod (eBi fInt (aCons (eVar 2) aNil)) (eVar 1))))))
def b_law_some (Φ : Phi) : SV := (sRet (eBin opIx (eVar 1) (eCall (Φ .law_sip) (aCons (eVar 0) (aCons (eBi fLenV (aCons (eVar 1) aNil)) aNil)))))
def b_law_code (Φ : Phi) : SV := (sSeq (sAsg (.one 1) (eCall (Φ .law_some) (aCons (eVar 0) (aCons (eLstV (aCons (eTup aNil) (aCons (eTup aNil) (aCons (eTup (aCons (eC (.int 1)) aNil)) (aCons (eTup (aCons (eC (.int 2)) aNil)) (aCons (eTup (aCons (eC (.int 3)) aNil)) (aCons (eTup (aCons (eC (.int 2)) (aCons (eC (.int 3)) aNil))) (aCons (eTup (aCons (eC (.int 1)) (aCons (eC (.int 4)) aNil))) (aCons (eTup (aCons (eC (.int 5)) (aCons (eC (.int 12)) aNil))) aNil))))))))) aNil))))
  (sRet (eTup (aCons (eCall (Φ .law_sip) (aCons (eVar 0) (aCons (eC (.int 4)) aNil))) (aCons (eCall (Φ .law_sip) (aCons (eVar 0) (aCons (eC (.int 3)) aNil))) (aCons (eVar 1) (aCons (eCall (Φ .law_sip) (aCons (eVar 0) (aCons (eC (.int 3)) aNil))) aNil)))))))
def b_law_read_1 (Φ : Phi) : SV := (sSeq (sAsg (.one 4) (eIf (tB3 (eBin opLt (eVar 3) (eC (.int 6)))) (eBin opIx (eLstV (aCons (eC (.str "changes")) (aCons (eC (.str "windows")) (aCons (eC (.str "knocks")) aNil)))) (eBin opDiv (eVar 3) (eC (.int 2)))) (eC (.str "pause"))))
  (sSeq (sAsg (.one 5) (eBin opIx (eVar 1) (eBin opAddV (eVar 3) (eC (.int 1)))))
  (sSeq (sIf (tOr3 (tB3 (eBin opNe (eBin opIx (eVar 1) (eVar 3)) (eVar 4))) (tNot3 (tB3 (eChain opLe opLe (eC (.int 1)) (eBi fLenV (aCons (eVar 5) aNil)) (eC (.int 2)))))) (sRet (eC .non)) sNil)
  (sSeq (sIf (tB3 (eBin opNe (eStrip (eVar 5) (eC (.str "0123456789"))) (eC (.str "")))) (sRet (eC .non)) sNil)
  (sSeq (sIf (tB3 (eBin opNe (eBi fStr (aCons (eBi fIntS (aCons (eVar 5) aNil)) aNil)) (eVar 5))) (sRet (eC .non)) sNil)
  (sExp (eApp (eVar 2) (eBi fIntS (aCons (eVar 5) aNil)))))))))
def b_law_read (Φ : Phi) : SV := (sSeq (sAsg (.one 1) (eSplit (eVar 0) (eC (.str " "))))
  (sSeq (sIf (tOr3 (tB3 (eBin opEq (eBin opMod (eBi fLenV (aCons (eVar 1) aNil)) (eC (.int 2))) (eC (.int 1)))) (tB3 (eBin opLt (eBi fLenV (aCons (eVar 1) aNil)) (eC (.int 6))))) (sRet (eC .non)) sNil)
  (sSeq (sAsg (.one 2) (eLst aNil))
  (sSeq (sFor (iRgE (eBi fLenV (aCons (eVar 1) aNil))) (.one 3) (b_law_read_1 Φ))
  (sSeq (sAsg (.one 6) (eTup (aCons (eBin opIx (eVar 2) (eC (.int 0))) (aCons (eBin opIx (eVar 2) (eC (.int 1))) (aCons (eBi fTuple (aCons (eSlV (eVar 2) (oSome (eC (.int 3))) oNone) aNil)) (aCons (eBin opIx (eVar 2) (eC (.int 2))) aNil))))))
  (sRet (eIf (tB3 (eCall (Φ .is_rule) (aCons (eVar 6) aNil))) (eVar 6) (eC .non))))))))
def b_law_writing_1 (Φ : Phi) : SV := (sAsg (.one 1) (eBin opAddV (eBin opAddV (eVar 1) (eC (.str " pause "))) (eBi fStr (aCons (eVar 2) aNil))))
def b_law_writing (Φ : Phi) : SV := (sSeq (sAsg (.one 1) (eBin opAddV (eBin opAddV (eBin opAddV (eC (.str "changes ")) (eBi fStr (aCons (eBin opIx (eVar 0) (eC (.int 0))) aNil))) (eC (.str " windows "))) (eBi fStr (aCons (eBin opIx (eVar 0) (eC (.int 1))) aNil))))
  (sSeq (sAsg (.one 1) (eBin opAddV (eBin opAddV (eVar 1) (eC (.str " knocks "))) (eBi fStr (aCons (eBin opIx (eVar 0) (eC (.int 3))) aNil))))
  (sSeq (sFor (iSeq (eBin opIx (eVar 0) (eC (.int 2)))) (.one 2) (b_law_writing_1 Φ))
  (sRet (eVar 1)))))
def b_law_tried (Φ : Phi) : SV := (sSeq (sAsg (.one 1) (eWord (eCall (Φ .read_rule) (aCons (eVar 0) aNil))))
  (sRet (eIf (tB3 (eBin opEq (eVar 1) (eC (.str "")))) (eCall (Φ .read_rule) (aCons (eVar 0) aNil)) (eVar 1))))
def b_law_bent (Φ : Phi) : SV := (sSeq (sAsg (.one 2) (eLstV (aCons (eC (.str " ")) (aCons (eC (.str "  ")) (aCons (eC (.str "0")) (aCons (eC (.str "1")) (aCons (eC (.str "5")) (aCons (eC (.str "12")) (aCons (eC (.str "13")) (aCons (eC (.str "-1")) (aCons (eC (.str "pause")) (aCons (eC (.str " pause 3")) (aCons (eC (.str " knocks 1")) (aCons (eC (.str "changes")) (aCons (eC (.str "")) aNil)))))))))))))))
  (sSeq (sAsg (.one 2) (eBin opAddV (eVar 2) (eLstV (aCons (eC (.str "x")) (aCons (eC (.str "01")) (aCons (eC (.str "\n")) aNil))))))
  (sSeq (sAsg (.one 3) (eCall (Φ .law_sip) (aCons (eVar 0) (aCons (eBin opAddV (eBi fLenV (aCons (eVar 1) aNil)) (eC (.int 1))) aNil))))
  (sRet (eBin opAddV (eBin opAddV (eSlS (eVar 1) oNone (oSome (eVar 3))) (eCall (Φ .law_some) (aCons (eVar 0) (aCons (eVar 2) aNil)))) (eSlS (eVar 1) (oSome (eBin opAddV (eVar 3) (eCall (Φ .law_sip) (aCons (eVar 0) (aCons (eC (.int 3)) aNil))))) oNone))))))
def b_law_1 (Φ : Phi) : SV := (sSeq (sAsg (.one 5) (eCall (Φ .law_bent) (aCons (eVar 2) (aCons (eVar 5) aNil))))
  (sSeq (sAsg (.one 7) (eCall (gc (Φ .law_read)) (aCons (eVar 5) aNil)))
  (sIf (tB3 (eBin opNe (eCall (Φ .law_tried) (aCons (eVar 5) aNil)) (eIf (tB3 (eBin opIs (eVar 7) (eC .non))) (eC (.str "text")) (eVar 7)))) (sRet (eC (.bl false))) sNil)))
def b_law_2 (Φ : Phi) : SV := (sSeq (sAsg (.one 4) (eCall (Φ .law_code) (aCons (eVar 2) aNil)))
  (sSeq (sAsg (.one 5) (eCall (Φ .law_writing) (aCons (eVar 4) aNil)))
  (sSeq (sIf (tOr3 (tB3 (eBin opNe (eCall (Φ .rule_text) (aCons (eVar 4) aNil)) (eVar 5))) (tB3 (eBin opNe (eCall (Φ .law_tried) (aCons (eVar 5) aNil)) (eVar 4)))) (sRet (eC (.bl false))) sNil)
  (sFor (iRg1 (eC (.int 3))) (.one 6) (b_law_1 Φ)))))
def b_law_3 (Φ : Phi) : SV := (sIf (tB3 (eBin opNe (eCall (Φ .law_tried) (aCons (eVar 8) aNil)) (eC (.str "text")))) (sRet (eC (.bl false))) sNil)
def b_law_4 (Φ : Phi) : SV := (sSeq (sAsg (.one 2) (eCall (Φ .law_flask_of) (aCons (eVar 0) (aCons (eVar 1) aNil))))
  (sSeq (sFor (iRg1 (eC (.int 30))) (.one 3) (b_law_2 Φ))
  (sFor (iSeq (eLstV (aCons (eC .non) (aCons (eC (.int 5)) (aCons (eTup (aCons (eVar 5) aNil)) (aCons (eLstV (aCons (eVar 5) aNil)) (aCons (eC (.bl true)) (aCons (eVar 4) aNil)))))))) (.one 8) (b_law_3 Φ))))
def b_law (Φ : Phi) : SV := (sSeq (sFor (iRg1 (eBin opAddV (eC (.int 1)) (eBi fMin (aCons (eBi fLenV (aCons (eVar 0) aNil)) (aCons (eC (.int 8)) aNil))))) (.one 1) (b_law_4 Φ))
  (sSeq (sAsg (.one 9) (eLst (aCons (eC (.str "")) (aCons (eC (.str "changes")) (aCons (eC (.str "changes 1 windows 1")) (aCons (eC (.str "changes 1 windows 1 knocks")) (aCons (eC (.str "windows 1 changes 1 knocks 0")) aNil)))))))
  (sSeq (sAsg (.one 9) (eBin opAdd (eVar 9) (eLst (aCons (eC (.str "changes 6 windows 1 knocks 0")) (aCons (eC (.str "changes 1 windows 1 knocks 0 pause")) aNil)))))
  (sSeq (sExp (eApp (eVar 9) (eC (.str "changes 01 windows 1 knocks 0"))))
  (sSeq (sAsg (.one 9) (eBin opAdd (eVar 9) (eLst (aCons (eC (.str "changes 1 windows 1 knocks 0 pause 9 pause 3")) (aCons (eC (.str "changes 1 windows 1 knocks 0 ")) aNil)))))
  (sSeq (sExp (eApp (eVar 9) (eC (.str "Changes 1 windows 1 knocks 0"))))
  (sSeq (sExp (eApp (eVar 9) (eC (.str "changes 1 windows 1 knocks 0 pause 1 pause 2 pause 3"))))
  (sSeq (sIf (tB3 (eBin opNe (eCompV (iSeq (eVar 9)) (.one 10) (tB3 (eBin opNe (eCall (Φ .law_tried) (aCons (eVar 10) aNil)) (eC (.str "text")))) (eVar 10) [10]) (eLstV aNil))) (sRet (eC (.bl false))) sNil)
  (sSeq (sIf (tB3 (eBin opNe (eCall (Φ .rule_text) (aCons (eTup (aCons (eC (.int 2)) (aCons (eC (.int 1)) (aCons (eTup (aCons (eC (.int 3)) (aCons (eC (.int 9)) aNil))) (aCons (eC (.int 1)) aNil))))) aNil)) (eC (.str "changes 2 windows 1 knocks 1 pause 3 pause 9")))) (sRet (eC (.bl false))) sNil)
  (sRet (eBin opEq (eCall (Φ .read_rule) (aCons (eC (.str "changes 1 windows 0 knocks 2")) aNil)) (eTup (aCons (eC (.int 1)) (aCons (eC (.int 0)) (aCons (eTup aNil) (aCons (eC (.int 2)) aNil))))))))))))))))
def body (Φ : Phi) : F → SV
  | .is_int => b_is_int Φ
  | .rules_so => b_rules_so Φ
  | .need_rule => b_need_rule Φ
  | .is_rule => b_is_rule Φ
  | .text_of => b_text_of Φ
  | .number_in => b_number_in Φ
  | .rule_in => b_rule_in Φ
  | .rule_text => b_rule_text Φ
  | .read_rule => b_read_rule Φ
  | .law_flask_of => b_law_flask_of Φ
  | .law_sip => b_law_sip Φ
  | .law_some => b_law_some Φ
  | .law_code => b_law_code Φ
  | .law_read => b_law_read Φ
  | .law_writing => b_law_writing Φ
  | .law_tried => b_law_tried Φ
  | .law_bent => b_law_bent Φ
  | .law => b_law Φ
def nN : F → Nat
  | .is_int => 3
  | .rules_so => 2
  | .need_rule => 1
  | .is_rule => 1
  | .text_of => 3
  | .number_in => 2
  | .rule_in => 5
  | .rule_text => 1
  | .read_rule => 1
  | .law_flask_of => 3
  | .law_sip => 4
  | .law_some => 2
  | .law_code => 2
  | .law_read => 7
  | .law_writing => 3
  | .law_tried => 2
  | .law_bent => 4
  | .law => 11
def run : Nat → Phi
  | 0, _, _, _ => .bad
  | n + 1, j, ds, g => runB (body (run n) j) (nN j) ds g
theorem r_is_int (n : Nat) (ds : List D) (g : GH) : run (n + 1) .is_int ds g = runB (b_is_int (run n)) 3 ds g := rfl
theorem r_rules_so (n : Nat) (ds : List D) (g : GH) : run (n + 1) .rules_so ds g = runB (b_rules_so (run n)) 2 ds g := rfl
theorem r_need_rule (n : Nat) (ds : List D) (g : GH) : run (n + 1) .need_rule ds g = runB (b_need_rule (run n)) 1 ds g := rfl
theorem r_is_rule (n : Nat) (ds : List D) (g : GH) : run (n + 1) .is_rule ds g = runB (b_is_rule (run n)) 1 ds g := rfl
theorem r_text_of (n : Nat) (ds : List D) (g : GH) : run (n + 1) .text_of ds g = runB (b_text_of (run n)) 3 ds g := rfl
theorem r_number_in (n : Nat) (ds : List D) (g : GH) : run (n + 1) .number_in ds g = runB (b_number_in (run n)) 2 ds g := rfl
theorem r_rule_in (n : Nat) (ds : List D) (g : GH) : run (n + 1) .rule_in ds g = runB (b_rule_in (run n)) 5 ds g := rfl
theorem r_rule_text (n : Nat) (ds : List D) (g : GH) : run (n + 1) .rule_text ds g = runB (b_rule_text (run n)) 1 ds g := rfl
theorem r_read_rule (n : Nat) (ds : List D) (g : GH) : run (n + 1) .read_rule ds g = runB (b_read_rule (run n)) 1 ds g := rfl
theorem r_law_flask_of (n : Nat) (ds : List D) (g : GH) : run (n + 1) .law_flask_of ds g = runB (b_law_flask_of (run n)) 3 ds g := rfl
theorem r_law_sip (n : Nat) (ds : List D) (g : GH) : run (n + 1) .law_sip ds g = runB (b_law_sip (run n)) 4 ds g := rfl
theorem r_law_some (n : Nat) (ds : List D) (g : GH) : run (n + 1) .law_some ds g = runB (b_law_some (run n)) 2 ds g := rfl
theorem r_law_code (n : Nat) (ds : List D) (g : GH) : run (n + 1) .law_code ds g = runB (b_law_code (run n)) 2 ds g := rfl
theorem r_law_read (n : Nat) (ds : List D) (g : GH) : run (n + 1) .law_read ds g = runB (b_law_read (run n)) 7 ds g := rfl
theorem r_law_writing (n : Nat) (ds : List D) (g : GH) : run (n + 1) .law_writing ds g = runB (b_law_writing (run n)) 3 ds g := rfl
theorem r_law_tried (n : Nat) (ds : List D) (g : GH) : run (n + 1) .law_tried ds g = runB (b_law_tried (run n)) 2 ds g := rfl
theorem r_law_bent (n : Nat) (ds : List D) (g : GH) : run (n + 1) .law_bent ds g = runB (b_law_bent (run n)) 4 ds g := rfl
theorem r_law (n : Nat) (ds : List D) (g : GH) : run (n + 1) .law ds g = runB (b_law (run n)) 11 ds g := rfl
end L3

/-! The derivations of law 12, printed by gen.py. -/
namespace L3
open PySem PySem.Spec PyProof.Rows L2
def top (i : Nat) : Stmt := PySem.Challenge.pw_benchstops_k12_texts_of_rules.main.body.getD i (.Pass ⟨0, 0, 0, 0⟩)
abbrev s_is_int : Stmt := top 21
abbrev N_is_int : List Str := ["value", "low", "high"]
theorem sc_is_int : FnScope N_is_int ["value", "low", "high"] (defScope s_is_int) := ⟨rfl, rfl, rfl, by decide +kernel, rfl, by decide +kernel, by decide +kernel⟩
abbrev s_rules_so : Stmt := top 22
abbrev N_rules_so : List Str := ["value", "stop"]
theorem sc_rules_so : FnScope N_rules_so ["value"] (defScope s_rules_so) := ⟨rfl, rfl, rfl, by decide +kernel, rfl, by decide +kernel, by decide +kernel⟩
abbrev s_need_rule : Stmt := top 23
abbrev N_need_rule : List Str := ["value"]
theorem sc_need_rule : FnScope N_need_rule ["value"] (defScope s_need_rule) := ⟨rfl, rfl, rfl, by decide +kernel, rfl, by decide +kernel, by decide +kernel⟩
abbrev s_is_rule : Stmt := top 24
abbrev N_is_rule : List Str := ["value"]
theorem sc_is_rule : FnScope N_is_rule ["value"] (defScope s_is_rule) := ⟨rfl, rfl, rfl, by decide +kernel, rfl, by decide +kernel, by decide +kernel⟩
abbrev s_text_of : Stmt := top 26
abbrev N_text_of : List Str := ["rule", "words", "stop"]
theorem sc_text_of : FnScope N_text_of ["rule"] (defScope s_text_of) := ⟨rfl, rfl, rfl, by decide +kernel, rfl, by decide +kernel, by decide +kernel⟩
abbrev s_number_in : Stmt := top 27
abbrev N_number_in : List Str := ["word", "sign"]
theorem sc_number_in : FnScope N_number_in ["word"] (defScope s_number_in) := ⟨rfl, rfl, rfl, by decide +kernel, rfl, by decide +kernel, by decide +kernel⟩
abbrev s_rule_in : Stmt := top 28
abbrev N_rule_in : List Str := ["value", "words", "numbers", "rule", "word"]
theorem sc_rule_in : FnScope N_rule_in ["value"] (defScope s_rule_in) := ⟨rfl, rfl, rfl, by decide +kernel, rfl, by decide +kernel, by decide +kernel⟩
abbrev s_rule_text : Stmt := top 29
abbrev N_rule_text : List Str := ["rule"]
theorem sc_rule_text : FnScope N_rule_text ["rule"] (defScope s_rule_text) := ⟨rfl, rfl, rfl, by decide +kernel, rfl, by decide +kernel, by decide +kernel⟩
abbrev s_read_rule : Stmt := top 30
abbrev N_read_rule : List Str := ["value"]
theorem sc_read_rule : FnScope N_read_rule ["value"] (defScope s_read_rule) := ⟨rfl, rfl, rfl, by decide +kernel, rfl, by decide +kernel, by decide +kernel⟩
abbrev s_law_flask_of : Stmt := top 32
abbrev N_law_flask_of : List Str := ["script", "k", "cell"]
theorem sc_law_flask_of : FnScope N_law_flask_of ["script", "k"] (defScope s_law_flask_of) := ⟨rfl, rfl, rfl, by decide +kernel, rfl, by decide +kernel, by decide +kernel⟩
abbrev s_law_sip : Stmt := top 33
abbrev N_law_sip : List Str := ["flask", "many", "found", "wide"]
theorem sc_law_sip : FnScope N_law_sip ["flask", "many"] (defScope s_law_sip) := ⟨rfl, rfl, rfl, by decide +kernel, rfl, by decide +kernel, by decide +kernel⟩
abbrev s_law_some : Stmt := top 34
abbrev N_law_some : List Str := ["flask", "things"]
theorem sc_law_some : FnScope N_law_some ["flask", "things"] (defScope s_law_some) := ⟨rfl, rfl, rfl, by decide +kernel, rfl, by decide +kernel, by decide +kernel⟩
abbrev s_law_code : Stmt := top 35
abbrev N_law_code : List Str := ["flask", "pauses_so"]
theorem sc_law_code : FnScope N_law_code ["flask"] (defScope s_law_code) := ⟨rfl, rfl, rfl, by decide +kernel, rfl, by decide +kernel, by decide +kernel⟩
abbrev s_law_read : Stmt := top 37
abbrev N_law_read : List Str := ["text", "parts", "numbers", "at", "label", "figures", "code"]
theorem sc_law_read : FnScope N_law_read ["text"] (defScope s_law_read) := ⟨rfl, rfl, rfl, by decide +kernel, rfl, by decide +kernel, by decide +kernel⟩
abbrev s_law_writing : Stmt := top 38
abbrev N_law_writing : List Str := ["code", "text", "stop"]
theorem sc_law_writing : FnScope N_law_writing ["code"] (defScope s_law_writing) := ⟨rfl, rfl, rfl, by decide +kernel, rfl, by decide +kernel, by decide +kernel⟩
abbrev s_law_tried : Stmt := top 39
abbrev N_law_tried : List Str := ["value", "word"]
theorem sc_law_tried : FnScope N_law_tried ["value"] (defScope s_law_tried) := ⟨rfl, rfl, rfl, by decide +kernel, rfl, by decide +kernel, by decide +kernel⟩
abbrev s_law_bent : Stmt := top 40
abbrev N_law_bent : List Str := ["flask", "text", "signs", "at"]
theorem sc_law_bent : FnScope N_law_bent ["flask", "text"] (defScope s_law_bent) := ⟨rfl, rfl, rfl, by decide +kernel, rfl, by decide +kernel, by decide +kernel⟩
abbrev s_law : Stmt := top 41
abbrev N_law : List Str := ["script", "k", "flask", "turn", "code", "text", "again", "due", "odd", "rows", "row"]
theorem sc_law : FnScope N_law ["script"] (defScope s_law) := ⟨rfl, rfl, rfl, by decide +kernel, rfl, by decide +kernel, by decide +kernel⟩
abbrev s_law_word : Stmt := top 36
theorem sc_law_word : FnScope ["call", "found", "e"] ["call"] (defScope s_law_word) := ⟨rfl, rfl, rfl, by decide +kernel, rfl, by decide +kernel, by decide +kernel⟩
def nm : F → Str
  | .is_int => "is_int"
  | .rules_so => "rules_so"
  | .need_rule => "need_rule"
  | .is_rule => "is_rule"
  | .text_of => "text_of"
  | .number_in => "number_in"
  | .rule_in => "rule_in"
  | .rule_text => "rule_text"
  | .read_rule => "read_rule"
  | .law_flask_of => "_law_flask_of"
  | .law_sip => "_law_sip"
  | .law_some => "_law_some"
  | .law_code => "_law_code"
  | .law_read => "_law_read"
  | .law_writing => "_law_writing"
  | .law_tried => "_law_tried"
  | .law_bent => "_law_bent"
  | .law => "law"
def st : F → Stmt
  | .is_int => s_is_int
  | .rules_so => s_rules_so
  | .need_rule => s_need_rule
  | .is_rule => s_is_rule
  | .text_of => s_text_of
  | .number_in => s_number_in
  | .rule_in => s_rule_in
  | .rule_text => s_rule_text
  | .read_rule => s_read_rule
  | .law_flask_of => s_law_flask_of
  | .law_sip => s_law_sip
  | .law_some => s_law_some
  | .law_code => s_law_code
  | .law_read => s_law_read
  | .law_writing => s_law_writing
  | .law_tried => s_law_tried
  | .law_bent => s_law_bent
  | .law => s_law
def ps : F → List Str
  | .is_int => ["value", "low", "high"]
  | .rules_so => ["value"]
  | .need_rule => ["value"]
  | .is_rule => ["value"]
  | .text_of => ["rule"]
  | .number_in => ["word"]
  | .rule_in => ["value"]
  | .rule_text => ["rule"]
  | .read_rule => ["value"]
  | .law_flask_of => ["script", "k"]
  | .law_sip => ["flask", "many"]
  | .law_some => ["flask", "things"]
  | .law_code => ["flask"]
  | .law_read => ["text"]
  | .law_writing => ["code"]
  | .law_tried => ["value"]
  | .law_bent => ["flask", "text"]
  | .law => ["script"]
def ar : F → Nat
  | .is_int => 3
  | .rules_so => 1
  | .need_rule => 1
  | .is_rule => 1
  | .text_of => 1
  | .number_in => 1
  | .rule_in => 1
  | .rule_text => 1
  | .read_rule => 1
  | .law_flask_of => 2
  | .law_sip => 2
  | .law_some => 2
  | .law_code => 1
  | .law_read => 1
  | .law_writing => 1
  | .law_tried => 1
  | .law_bent => 2
  | .law => 1
def exNm : List Str := ["InvalidRule", "InvalidSquad", "InvalidNumber", "InvalidPlan", "InvalidStanding", "InvalidPlace", "InvalidRow", "InvalidReply", "InvalidText", "Unlike", "Over", "NothingToUndo", "TooMany", "BenchError"]
def exA (K : PySem.W.Frag) (c : Nat) : Addr := He.ga K (exNm.getD c "")
def lamQ (x : Str) (sc : Scope) : Str := (envOfC x sc 0 0 .none).qual ++ "<lambda>"
def tfs : List He.Defn := [("_law_tried", none)]
def tabs (K : PySem.W.Frag) : List (Addr × Str) := [((He.cT K ("_law_tried", none)).2, lamQ "_law_tried" (defScope s_law_tried))]
def zOf (K : PySem.W.Frag) (P : Program) (w : World) : Row := ⟨⟨K, P, w⟩, tabs K, exA K⟩
structure Tx (K : PySem.W.Frag) (mg : Str → Option Value) (fd : F → FuncData) (fdw : FuncData) : Prop where
  mgF : ∀ j, mg (nm j) = some (.ref (He.fAd K (nm j, none)))
  fn : ∀ j, FunD K (nm j) (nm j) (defArgs (st j)) (defBody (st j)) (defScope (st j)) [] [] (He.fAd K (nm j, none)) (fd j)
  bd : ∀ j, Binds K (fd j) (ps j) []
  n_abs : mg "abs" = none
  n_bool : mg "bool" = none
  n_int : mg "int" = none
  n_isinstance : mg "isinstance" = none
  n_len : mg "len" = none
  n_list : mg "list" = none
  n_min : mg "min" = none
  n_range : mg "range" = none
  n_set : mg "set" = none
  n_sorted : mg "sorted" = none
  n_str : mg "str" = none
  n_tuple : mg "tuple" = none
  c_LAST_PAUSE : ∃ t, mg "LAST_PAUSE" = some (.int 12 t)
  c_MOST_CHANGES : ∃ t, mg "MOST_CHANGES" = some (.int 5 t)
  c_MOST_KNOCKS : ∃ t, mg "MOST_KNOCKS" = some (.int 2 t)
  c_MOST_PAUSES : ∃ t, mg "MOST_PAUSES" = some (.int 2 t)
  c_MOST_WINDOWS : ∃ t, mg "MOST_WINDOWS" = some (.int 4 t)
  mgW : mg "_law_word" = some (.ref (He.fAd K ("_law_word", none)))
  wd : FunD K "_law_word" "_law_word" (defArgs s_law_word) (defBody s_law_word) (defScope s_law_word) [] [] (He.fAd K ("_law_word", none)) fdw
  wb : Binds K fdw ["call"] []
  gx : ∀ c, c < 14 → mg (exNm.getD c "") = some (.ref (exA K c))
  ex : ∀ c, c < 12 → PySem.W.excIn K (exA K c) He.veBase "ValueError.__new__" = true ∧ PySem.W.keepIn K (.ref (exA K c)) = true ∧ PySem.W.subIn K (.ref (exA K c)) (.type "BaseException") = some true ∧ PySem.W.typeIn K (.ref (exA K c)) = some (.type "type")
  xm : ∀ c j, c < 12 → j < 12 → PySem.W.exmOne K (.ref (exA K c)) (.ref (exA K j)) = some (decide (c = j))
theorem gives_w {X : Cx} {K : PySem.W.Frag} {mg : Str → Option Value} {fd : F → FuncData} {fdw : FuncData} {g : Addr} {cdv : Value} {q : Str} (hK : X.K = K) (hmg : X.mg = mg) (T : Tx K mg fd fdw) :
    LamX.GivesTo X ["call", "found", "e"] "_law_word" (defScope s_law_word) g cdv (defBody s_law_word) "call" q (TTw (exA K)) := by
  subst hK hmg
  exact gives_word (l := [(.ref (exA X.K 12), none), (.ref (exA X.K 13), some (tsW "base"))]) sc_law_word.nd rfl rfl (fun c j h1 h2 => T.xm c j h1 (by omega)) (fun s H =>
    (.take (ts := tsW "rule") ⟨rfl, by decide, .inl (T.gx 0 (by decide))⟩ (fun a o cls d pn => pss_one (ps_set (i := 1) sc_law_word.nd rfl (.inl rfl) pe_str rfl (.inr rfl)))
    (.take (ts := tsW "squad") ⟨rfl, by decide, .inl (T.gx 1 (by decide))⟩ (fun a o cls d pn => pss_one (ps_set (i := 1) sc_law_word.nd rfl (.inl rfl) pe_str rfl (.inr rfl)))
    (.take (ts := tsW "number") ⟨rfl, by decide, .inl (T.gx 2 (by decide))⟩ (fun a o cls d pn => pss_one (ps_set (i := 1) sc_law_word.nd rfl (.inl rfl) pe_str rfl (.inr rfl)))
    (.take (ts := tsW "plan") ⟨rfl, by decide, .inl (T.gx 3 (by decide))⟩ (fun a o cls d pn => pss_one (ps_set (i := 1) sc_law_word.nd rfl (.inl rfl) pe_str rfl (.inr rfl)))
    (.take (ts := tsW "standing") ⟨rfl, by decide, .inl (T.gx 4 (by decide))⟩ (fun a o cls d pn => pss_one (ps_set (i := 1) sc_law_word.nd rfl (.inl rfl) pe_str rfl (.inr rfl)))
    (.take (ts := tsW "place") ⟨rfl, by decide, .inl (T.gx 5 (by decide))⟩ (fun a o cls d pn => pss_one (ps_set (i := 1) sc_law_word.nd rfl (.inl rfl) pe_str rfl (.inr rfl)))
    (.take (ts := tsW "row") ⟨rfl, by decide, .inl (T.gx 6 (by decide))⟩ (fun a o cls d pn => pss_one (ps_set (i := 1) sc_law_word.nd rfl (.inl rfl) pe_str rfl (.inr rfl)))
    (.take (ts := tsW "reply") ⟨rfl, by decide, .inl (T.gx 7 (by decide))⟩ (fun a o cls d pn => pss_one (ps_set (i := 1) sc_law_word.nd rfl (.inl rfl) pe_str rfl (.inr rfl)))
    (.take (ts := tsW "text") ⟨rfl, by decide, .inl (T.gx 8 (by decide))⟩ (fun a o cls d pn => pss_one (ps_set (i := 1) sc_law_word.nd rfl (.inl rfl) pe_str rfl (.inr rfl)))
    (.take (ts := tsW "unlike") ⟨rfl, by decide, .inl (T.gx 9 (by decide))⟩ (fun a o cls d pn => pss_one (ps_set (i := 1) sc_law_word.nd rfl (.inl rfl) pe_str rfl (.inr rfl)))
    (.take (ts := tsW "over") ⟨rfl, by decide, .inl (T.gx 10 (by decide))⟩ (fun a o cls d pn => pss_one (ps_set (i := 1) sc_law_word.nd rfl (.inl rfl) pe_str rfl (.inr rfl)))
    (.take (ts := tsW "undo") ⟨rfl, by decide, .inl (T.gx 11 (by decide))⟩ (fun a o cls d pn => pss_one (ps_set (i := 1) sc_law_word.nd rfl (.inl rfl) pe_str rfl (.inr rfl)))
    (.skip ⟨rfl, by decide, .inl (T.gx 12 (by decide))⟩ (.take (ts := tsW "base") ⟨rfl, by decide, .inl (T.gx 13 (by decide))⟩ (fun a o cls d pn => pss_one (ps_set (i := 1) sc_law_word.nd rfl (.inl rfl) pe_str rfl (.inr rfl)))
    .nil)))))))))))))))
theorem tf_law_tried : (("_law_tried", none) : He.Defn) ∈ tfs := by simp [tfs]
theorem tm_law_tried {K : PySem.W.Frag} : ((He.cT K ("_law_tried", none)).2, lamQ "_law_tried" (defScope s_law_tried)) ∈ tabs K := by simp [tabs]
theorem tu_law_tried {K : PySem.W.Frag} {mg : Str → Option Value} {fd : F → FuncData} {fdw : FuncData} (T : Tx K mg fd fdw) : ∀ p ∈ tabs K, p.1 = (He.cT K ("_law_tried", none)).2 → p.2 = lamQ "_law_tried" (defScope s_law_tried) := by
  intro p hp _
  simp [tabs] at hp
  rw [hp]
section
variable {P : Program} {w : World} {K : PySem.W.Frag} {mg : Str → Option Value} {base : Heap} {fd : F → FuncData} {fdw : FuncData} {n : Nat} (T : Tx K mg fd fdw)
  (A : ∀ j, FnOk P w K mg base (L2.CX P w) (3 * n) (He.fAd K (nm j, none)) (fd j) (ps j) (spOf (zOf K P w) (ar j) (run n j)))
  (TB : ∀ p ∈ tfs, LamX.TabB base mg (He.cT K p).1 (He.cT K p).2)
include T A TB
theorem d_is_int : FnOk P w K mg base (L2.CX P w) (3 * n + 2 + 1) (He.fAd K (nm .is_int, none)) (fd .is_int) (ps .is_int) (spOf (zOf K P w) (ar .is_int) (runB (b_is_int (run n)) 3)) :=
  fn3D (T.fn .is_int) sc_is_int rfl rfl fun cdv A0 outer s H E hc hr =>
  (pss3_one (ps3_ret (pe3_and (pe3_isB .tint rfl rfl T.n_isinstance rfl T.n_int bt_int (pe3_var 0) bt_isinstance) (pe3_and (pe3_not (pe3_isB .tbool rfl rfl T.n_isinstance rfl T.n_bool bt_bool (pe3_var 0) bt_isinstance)) (pe3_one (pe3_chain o_le o_le (pe3_var 1) (pe3_var 0) (pe3_var 2)))))))
theorem d_rules_so : FnOk P w K mg base (L2.CX P w) (3 * n + 2 + 1) (He.fAd K (nm .rules_so, none)) (fd .rules_so) (ps .rules_so) (spOf (zOf K P w) (ar .rules_so) (runB (b_rules_so (run n)) 2)) :=
  fn3D (T.fn .rules_so) sc_rules_so rfl rfl fun cdv A0 outer s H E hc hr =>
  (pss3_cons (ps3_if (PW.pt (pw3_or (pt3_not (pt3_val (pe3_isB .ttuple rfl rfl T.n_isinstance rfl T.n_tuple bt_tuple (pe3_var 0) bt_isinstance))) (pw3_or1 (pt3_cmp (o_ne rfl (u64 hr)) (pe3_bi (c_lenV rfl) rfl T.n_len bt_len (pa3_cons (pe3_var 0) pa3_nil)) pe3_int)))) (pss3_one (ps3_ret pe3_bl)) pss3_nil)
  (pss3_cons (ps3_if (PW.pt (pw3_or (pt3_not (pt3_val (pe3_call (A .is_int) (hr.mono (by omega)) rfl (T.mgF .is_int) (T.fn .is_int).kp (T.bd .is_int) (takes_of rfl rfl rfl rfl) (pa3_cons (pe3_ix (o_ix rfl) (pe3_var 0) pe3_int) (pa3_cons pe3_int (pa3_cons (pe3_globI rfl T.c_MOST_CHANGES) pa3_nil))) rfl (lenA_cons (lenA_cons (lenA_cons lenA_nil)))))) (pw3_or1 (pt3_not (pt3_val (pe3_call (A .is_int) (hr.mono (by omega)) rfl (T.mgF .is_int) (T.fn .is_int).kp (T.bd .is_int) (takes_of rfl rfl rfl rfl) (pa3_cons (pe3_ix (o_ix rfl) (pe3_var 0) pe3_int) (pa3_cons pe3_int (pa3_cons (pe3_globI rfl T.c_MOST_WINDOWS) pa3_nil))) rfl (lenA_cons (lenA_cons (lenA_cons lenA_nil))))))))) (pss3_one (ps3_ret pe3_bl)) pss3_nil)
  (pss3_cons (ps3_if (PW.pt (pw3_or (pt3_not (pt3_val (pe3_isB .ttuple rfl rfl T.n_isinstance rfl T.n_tuple bt_tuple (pe3_ix (o_ix rfl) (pe3_var 0) pe3_int) bt_isinstance))) (pw3_or (pt3_cmp o_gt (pe3_bi (c_lenV rfl) rfl T.n_len bt_len (pa3_cons (pe3_ix (o_ix rfl) (pe3_var 0) pe3_int) pa3_nil)) (pe3_globI rfl T.c_MOST_PAUSES)) (pw3_or1 (pt3_not (pt3_val (pe3_call (A .is_int) (hr.mono (by omega)) rfl (T.mgF .is_int) (T.fn .is_int).kp (T.bd .is_int) (takes_of rfl rfl rfl rfl) (pa3_cons (pe3_ix (o_ix rfl) (pe3_var 0) pe3_int) (pa3_cons pe3_int (pa3_cons (pe3_globI rfl T.c_MOST_KNOCKS) pa3_nil))) rfl (lenA_cons (lenA_cons (lenA_cons lenA_nil)))))))))) (pss3_one (ps3_ret pe3_bl)) pss3_nil)
  (pss3_cons (ps3_if (pt3_cmp (o_ne rfl (u64 hr)) (pe3_lcV (own := [("stop", 1)]) (t := (.one 1)) rfl rfl sc_rules_so.nd (pi3_seq rfl (pe3_ix (o_ix rfl) (pe3_var 0) pe3_int)) (blkOk_by (own := [("stop", 1)]) (N := N_rules_so) (sc := defScope s_rules_so) (by decide +kernel)) (slots_ok (n := 2) (by decide)) (by decide) (fun _ _ _ _ _ => (pg3_one sc_rules_so.nd rfl (Or.inl rfl))) (fun _ _ _ _ _ => (pts3_one (pt3_not (pt3_val (pe3_call (A .is_int) (hr.mono (by omega)) rfl (T.mgF .is_int) (T.fn .is_int).kp (T.bd .is_int) takes0 (pa3_cons (pe3_var 1) (pa3_cons pe3_int (pa3_cons (pe3_globI rfl T.c_LAST_PAUSE) pa3_nil))) rfl (lenA_cons (lenA_cons (lenA_cons lenA_nil)))))))) (fun _ _ _ _ _ => (pe3_var 1))) (pe3_lstV pa3_nil)) (pss3_one (ps3_ret pe3_bl)) pss3_nil)
  (pss3_one (ps3_ret (pe3_cmp (o_eq rfl (u64 hr)) (pe3_ty (c_listV rfl) rfl T.n_list bt_list (pa3_cons (pe3_ix (o_ix rfl) (pe3_var 0) pe3_int) pa3_nil)) (pe3_sortSet rfl rfl (u65 hr) rfl T.n_sorted rfl T.n_set (pe3_ix (o_ix rfl) (pe3_var 0) pe3_int)))))))))
theorem d_need_rule : FnOk P w K mg base (L2.CX P w) (3 * n + 2 + 1) (He.fAd K (nm .need_rule, none)) (fd .need_rule) (ps .need_rule) (spOf (zOf K P w) (ar .need_rule) (runB (b_need_rule (run n)) 1)) :=
  fn3D (T.fn .need_rule) sc_need_rule rfl rfl fun cdv A0 outer s H E hc hr =>
  (pss3_one (ps3_if (pt3_not (pt3_val (pe3_call (A .rules_so) (hr.mono (by omega)) rfl (T.mgF .rules_so) (T.fn .rules_so).kp (T.bd .rules_so) (takes_of rfl rfl rfl rfl) (pa3_cons (pe3_var 0) pa3_nil) rfl (lenA_cons lenA_nil)))) (pss3_one (ps3_raise (cI := 0) rfl (takes_of rfl rfl rfl rfl) PySem.F.excBase_ValueError (T.ex 0 (by decide)).1 (T.gx 0 (by decide)) (T.ex 0 (by decide)).2.1 (raises_own (T.ex 0 (by decide)).2.2.1 (T.ex 0 (by decide)).2.2.2) rfl rfl)) pss3_nil))
theorem d_is_rule : FnOk P w K mg base (L2.CX P w) (3 * n + 2 + 1) (He.fAd K (nm .is_rule, none)) (fd .is_rule) (ps .is_rule) (spOf (zOf K P w) (ar .is_rule) (runB (b_is_rule (run n)) 1)) :=
  fn3D (T.fn .is_rule) sc_is_rule rfl rfl fun cdv A0 outer s H E hc hr =>
  (pss3_one (ps3_ret (pe3_call (A .rules_so) (hr.mono (by omega)) rfl (T.mgF .rules_so) (T.fn .rules_so).kp (T.bd .rules_so) (takes_of rfl rfl rfl rfl) (pa3_cons (pe3_var 0) pa3_nil) rfl (lenA_cons lenA_nil))))
theorem d_text_of : FnOk P w K mg base (L2.CX P w) (3 * n + 2 + 1) (He.fAd K (nm .text_of, none)) (fd .text_of) (ps .text_of) (spOf (zOf K P w) (ar .text_of) (runB (b_text_of (run n)) 3)) :=
  fn3D (T.fn .text_of) sc_text_of rfl rfl fun cdv A0 outer s H E hc hr =>
  (pss3_cons (ps3_set (i := 1) sc_text_of.nd rfl (Or.inl rfl) (pe3_lstV (pa3_cons pe3_str (pa3_cons (pe3_ty (c_str) rfl T.n_str bt_str (pa3_cons (pe3_ix (o_ix rfl) (pe3_var 0) pe3_int) pa3_nil)) (pa3_cons pe3_str (pa3_cons (pe3_ty (c_str) rfl T.n_str bt_str (pa3_cons (pe3_ix (o_ix rfl) (pe3_var 0) pe3_int) pa3_nil)) (pa3_cons pe3_str (pa3_cons (pe3_ty (c_str) rfl T.n_str bt_str (pa3_cons (pe3_ix (o_ix rfl) (pe3_var 0) pe3_int) pa3_nil)) pa3_nil))))))))
  (pss3_one (ps3_ret (pe3_join rfl pe3_str (pe3_bin (o_addV rfl) (pe3_var 1) (pe3_lcV (own := [("stop", 2)]) (t := (.one 2)) rfl rfl sc_text_of.nd (pi3_seq rfl (pe3_ix (o_ix rfl) (pe3_var 0) pe3_int)) (blkOk_by (own := [("stop", 2)]) (N := N_text_of) (sc := defScope s_text_of) (by decide +kernel)) (slots_ok (n := 3) (by decide)) (by decide) (fun _ _ _ _ _ => (pg3_one sc_text_of.nd rfl (Or.inl rfl))) (fun _ _ _ _ _ => pts3_nil) (fun _ _ _ _ _ => (pe3_bin (o_addV rfl) pe3_str (pe3_ty (c_str) rfl T.n_str bt_str (pa3_cons (pe3_var 2) pa3_nil))))))))))
theorem d_number_in : FnOk P w K mg base (L2.CX P w) (3 * n + 2 + 1) (He.fAd K (nm .number_in, none)) (fd .number_in) (ps .number_in) (spOf (zOf K P w) (ar .number_in) (runB (b_number_in (run n)) 2)) :=
  fn3D (T.fn .number_in) sc_number_in rfl rfl fun cdv A0 outer s H E hc hr =>
  (pss3_cons (ps3_if (PW.pt (pw3_or (pt3_not (pt3_chain o_le o_le pe3_int (pe3_bi (c_lenV rfl) rfl T.n_len bt_len (pa3_cons (pe3_var 0) pa3_nil)) pe3_int)) (pw3_or1 (pt3_cmp (o_ne rfl (u64 hr)) (pe3_lcV (own := [("sign", 1)]) (t := (.one 1)) rfl rfl sc_number_in.nd (pi3_strD (pe3_var 0)) (blkOk_by (own := [("sign", 1)]) (N := N_number_in) (sc := defScope s_number_in) (by decide +kernel)) (slots_ok (n := 2) (by decide)) (by decide) (fun _ _ _ _ _ => (pg3_one sc_number_in.nd rfl (Or.inl rfl))) (fun _ _ _ _ _ => (pts3_one (pt3_cmp o_notInS (pe3_var 1) pe3_str))) (fun _ _ _ _ _ => (pe3_var 1))) (pe3_lstV pa3_nil))))) (pss3_one (ps3_ret pe3_non)) pss3_nil)
  (pss3_one (ps3_ret (pe3_if (pt3_cmp (o_eq rfl (u64 hr)) (pe3_ty (c_str) rfl T.n_str bt_str (pa3_cons (pe3_ty c_intS rfl T.n_int bt_int (pa3_cons (pe3_var 0) pa3_nil)) pa3_nil)) (pe3_var 0)) (pe3_ty c_intS rfl T.n_int bt_int (pa3_cons (pe3_var 0) pa3_nil)) pe3_non))))
theorem d_rule_in : FnOk P w K mg base (L2.CX P w) (3 * n + 2 + 1) (He.fAd K (nm .rule_in, none)) (fd .rule_in) (ps .rule_in) (spOf (zOf K P w) (ar .rule_in) (runB (b_rule_in (run n)) 5)) :=
  fn3D (T.fn .rule_in) sc_rule_in rfl rfl fun cdv A0 outer s H E hc hr =>
  (pss3_cons (ps3_if (pt3_not (pt3_val (pe3_isB .tstr rfl rfl T.n_isinstance rfl T.n_str bt_str (pe3_var 0) bt_isinstance))) (pss3_one (ps3_raise (cI := 8) rfl (takes_of rfl rfl rfl rfl) PySem.F.excBase_ValueError (T.ex 8 (by decide)).1 (T.gx 8 (by decide)) (T.ex 8 (by decide)).2.1 (raises_own (T.ex 8 (by decide)).2.2.1 (T.ex 8 (by decide)).2.2.2) rfl rfl)) pss3_nil)
  (pss3_cons (ps3_set (i := 1) sc_rule_in.nd rfl (Or.inl rfl) (pe3_split rfl (pe3_var 0) pe3_str))
  (pss3_cons (ps3_if (PW.pt (pw3_or (pt3_cmp (o_ne rfl (u64 hr)) (pe3_slV rfl (pe3_st2 rfl (pe3_var 1) po_no) po3_none (po3_some pe3_int)) (pe3_lstV (pa3_cons pe3_str (pa3_cons pe3_str (pa3_cons pe3_str pa3_nil))))) (pw3_or1 (pt3_cmp (o_eq rfl (u64 hr)) (pe3_bin o_mod (pe3_bi (c_lenV rfl) rfl T.n_len bt_len (pa3_cons (pe3_var 1) pa3_nil)) pe3_int) pe3_int)))) (pss3_one (ps3_raise (cI := 8) rfl (takes_of rfl rfl rfl rfl) PySem.F.excBase_ValueError (T.ex 8 (by decide)).1 (T.gx 8 (by decide)) (T.ex 8 (by decide)).2.1 (raises_own (T.ex 8 (by decide)).2.2.1 (T.ex 8 (by decide)).2.2.2) rfl rfl)) pss3_nil)
  (pss3_cons (ps3_setLcV (i := 2) (own := [("word", 4)]) (t := (.one 4)) rfl rfl sc_rule_in.nd rfl rfl (sw_true rfl rfl rfl (by decide +kernel)) (pi3_seq rfl (pe3_st2 rfl (pe3_var 1) po_lit)) (blkOk_by (own := [("word", 4)]) (N := N_rule_in) (sc := defScope s_rule_in) (by decide +kernel)) (slots_ok (n := 5) (by decide)) (by decide) (fun _ _ _ _ _ => (pg3_one sc_rule_in.nd rfl (Or.inl rfl))) (fun _ _ _ _ _ => pts3_nil) (fun _ _ _ _ _ => (pe3_call (A .number_in) (hr.mono (by omega)) rfl (T.mgF .number_in) (T.fn .number_in).kp (T.bd .number_in) takes0 (pa3_cons (pe3_var 4) pa3_nil) rfl (lenA_cons lenA_nil))))
  (pss3_cons (ps3_set (i := 3) sc_rule_in.nd rfl (Or.inl rfl) (pe3_tup (pa3_cons (pe3_ix (o_ix rfl) (pe3_var 2) pe3_int) (pa3_cons (pe3_ix (o_ix rfl) (pe3_var 2) pe3_int) (pa3_cons (pe3_ty (c_tuple rfl) rfl T.n_tuple bt_tuple (pa3_cons (pe3_slV rfl (pe3_var 2) (po3_some pe3_int) po3_none) pa3_nil)) (pa3_cons (pe3_ix (o_ix rfl) (pe3_var 2) pe3_int) pa3_nil))))))
  (pss3_cons (ps3_if (PW.pt (pw3_or (pt3_cmp (o_ne rfl (u64 hr)) (pe3_lcV (own := [("word", 4)]) (t := (.one 4)) rfl rfl sc_rule_in.nd (pi3_seq rfl (pe3_st2 rfl (pe3_var 1) po_lit)) (blkOk_by (own := [("word", 4)]) (N := N_rule_in) (sc := defScope s_rule_in) (by decide +kernel)) (slots_ok (n := 5) (by decide)) (by decide) (fun _ _ _ _ _ => (pg3_one sc_rule_in.nd rfl (Or.inl rfl))) (fun _ _ _ _ _ => (pts3_one (pt3_cmp (o_ne rfl (u64 hr)) (pe3_var 4) pe3_str))) (fun _ _ _ _ _ => (pe3_var 4))) (pe3_lstV pa3_nil)) (pw3_or1 (pt3_not (pt3_val (pe3_call (A .rules_so) (hr.mono (by omega)) rfl (T.mgF .rules_so) (T.fn .rules_so).kp (T.bd .rules_so) (takes_of rfl rfl rfl rfl) (pa3_cons (pe3_var 3) pa3_nil) rfl (lenA_cons lenA_nil))))))) (pss3_one (ps3_raise (cI := 8) rfl (takes_of rfl rfl rfl rfl) PySem.F.excBase_ValueError (T.ex 8 (by decide)).1 (T.gx 8 (by decide)) (T.ex 8 (by decide)).2.1 (raises_own (T.ex 8 (by decide)).2.2.1 (T.ex 8 (by decide)).2.2.2) rfl rfl)) pss3_nil)
  (pss3_one (ps3_ret (pe3_var 3)))))))))
theorem d_rule_text : FnOk P w K mg base (L2.CX P w) (3 * n + 2 + 1) (He.fAd K (nm .rule_text, none)) (fd .rule_text) (ps .rule_text) (spOf (zOf K P w) (ar .rule_text) (runB (b_rule_text (run n)) 1)) :=
  fn3D (T.fn .rule_text) sc_rule_text rfl rfl fun cdv A0 outer s H E hc hr =>
  (pss3_cons (ps3_exp (pe3_call (A .need_rule) (hr.mono (by omega)) rfl (T.mgF .need_rule) (T.fn .need_rule).kp (T.bd .need_rule) (takes_of rfl rfl rfl rfl) (pa3_cons (pe3_var 0) pa3_nil) rfl (lenA_cons lenA_nil)))
  (pss3_one (ps3_ret (pe3_call (A .text_of) (hr.mono (by omega)) rfl (T.mgF .text_of) (T.fn .text_of).kp (T.bd .text_of) (takes_of rfl rfl rfl rfl) (pa3_cons (pe3_var 0) pa3_nil) rfl (lenA_cons lenA_nil)))))
theorem d_read_rule : FnOk P w K mg base (L2.CX P w) (3 * n + 2 + 1) (He.fAd K (nm .read_rule, none)) (fd .read_rule) (ps .read_rule) (spOf (zOf K P w) (ar .read_rule) (runB (b_read_rule (run n)) 1)) :=
  fn3D (T.fn .read_rule) sc_read_rule rfl rfl fun cdv A0 outer s H E hc hr =>
  (pss3_one (ps3_ret (pe3_call (A .rule_in) (hr.mono (by omega)) rfl (T.mgF .rule_in) (T.fn .rule_in).kp (T.bd .rule_in) (takes_of rfl rfl rfl rfl) (pa3_cons (pe3_var 0) pa3_nil) rfl (lenA_cons lenA_nil))))
theorem d_law_flask_of : FnOk P w K mg base (L2.CX P w) (3 * n + 2 + 1) (He.fAd K (nm .law_flask_of, none)) (fd .law_flask_of) (ps .law_flask_of) (spOf (zOf K P w) (ar .law_flask_of) (runB (b_law_flask_of (run n)) 3)) :=
  fn3D (T.fn .law_flask_of) sc_law_flask_of rfl rfl fun cdv A0 outer s H E hc hr =>
  (pss3_cons (ps3_set (i := 2) sc_law_flask_of.nd rfl (Or.inl rfl) (pe3_bin (o_addV rfl) (pe3_bin (o_mul rfl) pe3_int (pe3_var 1)) pe3_int))
  (pss3_cons (ps3_if (pt3_cmp (o_lt rfl (u64 hr)) (pe3_var 1) (pe3_bi (c_lenV rfl) rfl T.n_len bt_len (pa3_cons (pe3_var 0) pa3_nil))) (pss3_one (ps3_set (i := 2) sc_law_flask_of.nd rfl (Or.inl rfl) (pe3_bin o_mod (pe3_bi (c_abs) rfl T.n_abs bt_abs (pa3_cons (pe3_ty (c_int) rfl T.n_int bt_int (pa3_cons (pe3_ix (o_ix rfl) (pe3_var 0) (pe3_var 1)) pa3_nil)) pa3_nil)) (pe3_bin (o_mul rfl) (pe3_bin (o_mul rfl) (pe3_bin (o_mul rfl) (pe3_bin o_pow pe3_int pe3_int) (pe3_bin o_pow pe3_int pe3_int)) (pe3_bin o_pow pe3_int pe3_int)) (pe3_bin o_pow pe3_int pe3_int))))) (pss3_one (ps3_if (pt3_cmp o_gt (pe3_bi (c_lenV rfl) rfl T.n_len bt_len (pa3_cons (pe3_var 0) pa3_nil)) pe3_int) (pss3_one (ps3_set (i := 2) sc_law_flask_of.nd rfl (Or.inl rfl) (pe3_bin (o_addV rfl) (pe3_var 2) (pe3_bin o_mod (pe3_bi (c_abs) rfl T.n_abs bt_abs (pa3_cons (pe3_ty (c_int) rfl T.n_int bt_int (pa3_cons (pe3_ix (o_ix rfl) (pe3_var 0) pe3_int) pa3_nil)) pa3_nil)) pe3_int)))) pss3_nil)))
  (pss3_one (ps3_ret (pe3_lst (pa3_cons (pe3_if (pt3_cmp o_ge (pe3_var 2) (pe3_bin o_pow pe3_int pe3_int)) (pe3_var 2) pe3_int) (pa3_cons (pe3_bin (o_addV rfl) (pe3_bin o_mod (pe3_ty (c_int) rfl T.n_int bt_int (pa3_cons (pe3_bin (o_addV rfl) (pe3_bin (o_addV rfl) (pe3_bin (o_mul rfl) (pe3_bin o_mod (pe3_var 2) pe3_int) pe3_int) (pe3_bin (o_mul rfl) pe3_int (pe3_var 1))) pe3_int) pa3_nil)) pe3_int) pe3_int) pa3_nil)))))))
theorem d_law_sip : FnOk P w K mg base (L2.CX P w) (3 * n + 2 + 1) (He.fAd K (nm .law_sip, none)) (fd .law_sip) (ps .law_sip) (spOf (zOf K P w) (ar .law_sip) (runB (b_law_sip (run n)) 4)) :=
  fn3D (T.fn .law_sip) sc_law_sip rfl rfl fun cdv A0 outer s H E hc hr =>
  (pss3_cons (ps3_if (pt3_cmp o_gt (pe3_ix (o_ix rfl) (pe3_var 0) pe3_int) pe3_int) (pss3_cons (ps3_set (i := 2) sc_law_sip.nd rfl (Or.inl rfl) (pe3_bin o_mod (pe3_ty (c_int) rfl T.n_int bt_int (pa3_cons (pe3_ix (o_ix rfl) (pe3_var 0) pe3_int) pa3_nil)) (pe3_var 1)))
  (pss3_cons (ps3_setIx (pe3_bin o_div (pe3_ix (o_ix rfl) (pe3_var 0) pe3_int) (pe3_var 1)) (pg_sub (pe3_var 0) pe3_int (set_3 rfl)))
  (pss3_one (ps3_ret (pe3_var 2))))) pss3_nil)
  (pss3_cons (ps3_asg (t := (.tup [2, 3])) rfl (pe3_tup (pa3_cons pe3_int (pa3_cons pe3_int pa3_nil))) (pg_tup rfl (pgs3_cons sc_law_sip.nd rfl (Or.inl rfl) (pgs3_cons sc_law_sip.nd rfl (Or.inl rfl) pgs3_nil))) (slots_ok (n := 4) (by decide)))
  (pss3_cons (ps3_while 1000000 (passes_of rfl) (PW.pt (pw3_or (pt3_cmp (o_lt rfl (u64 hr)) (pe3_var 3) (pe3_var 1)) (pw3_or1 (pt3_cmp (o_eq rfl (u64 hr)) (pe3_var 3) pe3_int)))) (pss3_cons (ps3_setIx (pe3_bin o_mod (pe3_ty (c_int) rfl T.n_int bt_int (pa3_cons (pe3_bin (o_addV rfl) (pe3_bin (o_mul rfl) (pe3_ix (o_ix rfl) (pe3_var 0) pe3_int) pe3_int) pe3_int) pa3_nil)) pe3_int) (pg_sub (pe3_var 0) pe3_int (set_3 rfl)))
  (pss3_cons (ps3_set (i := 2) sc_law_sip.nd rfl (Or.inl rfl) (pe3_bin (o_addV rfl) (pe3_bin (o_mul rfl) (pe3_var 2) pe3_int) (pe3_bin o_mod (pe3_ty (c_int) rfl T.n_int bt_int (pa3_cons (pe3_bin o_div (pe3_ix (o_ix rfl) (pe3_var 0) pe3_int) pe3_int) pa3_nil)) pe3_int)))
  (pss3_one (ps3_set (i := 3) sc_law_sip.nd rfl (Or.inl rfl) (pe3_bin (o_mul rfl) (pe3_var 3) pe3_int))))))
  (pss3_one (ps3_ret (pe3_bin o_mod (pe3_ty (c_int) rfl T.n_int bt_int (pa3_cons (pe3_var 2) pa3_nil)) (pe3_var 1)))))))
theorem d_law_some : FnOk P w K mg base (L2.CX P w) (3 * n + 2 + 1) (He.fAd K (nm .law_some, none)) (fd .law_some) (ps .law_some) (spOf (zOf K P w) (ar .law_some) (runB (b_law_some (run n)) 2)) :=
  fn3D (T.fn .law_some) sc_law_some rfl rfl fun cdv A0 outer s H E hc hr =>
  (pss3_one (ps3_ret (pe3_ix (o_ix rfl) (pe3_var 1) (pe3_call (A .law_sip) (hr.mono (by omega)) rfl (T.mgF .law_sip) (T.fn .law_sip).kp (T.bd .law_sip) (takes_of rfl rfl rfl rfl) (pa3_cons (pe3_var 0) (pa3_cons (pe3_bi (c_lenV rfl) rfl T.n_len bt_len (pa3_cons (pe3_var 1) pa3_nil)) pa3_nil)) rfl (lenA_cons (lenA_cons lenA_nil))))))
theorem d_law_code : FnOk P w K mg base (L2.CX P w) (3 * n + 2 + 1) (He.fAd K (nm .law_code, none)) (fd .law_code) (ps .law_code) (spOf (zOf K P w) (ar .law_code) (runB (b_law_code (run n)) 2)) :=
  fn3D (T.fn .law_code) sc_law_code rfl rfl fun cdv A0 outer s H E hc hr =>
  (pss3_cons (ps3_set (i := 1) sc_law_code.nd rfl (Or.inl rfl) (pe3_call (A .law_some) (hr.mono (by omega)) rfl (T.mgF .law_some) (T.fn .law_some).kp (T.bd .law_some) (takes_of rfl rfl rfl rfl) (pa3_cons (pe3_var 0) (pa3_cons (pe3_lstV (pa3_cons (pe3_tup pa3_nil) (pa3_cons (pe3_tup pa3_nil) (pa3_cons (pe3_tup (pa3_cons pe3_int pa3_nil)) (pa3_cons (pe3_tup (pa3_cons pe3_int pa3_nil)) (pa3_cons (pe3_tup (pa3_cons pe3_int pa3_nil)) (pa3_cons (pe3_tup (pa3_cons pe3_int (pa3_cons pe3_int pa3_nil))) (pa3_cons (pe3_tup (pa3_cons pe3_int (pa3_cons pe3_int pa3_nil))) (pa3_cons (pe3_tup (pa3_cons pe3_int (pa3_cons pe3_int pa3_nil))) pa3_nil))))))))) pa3_nil)) rfl (lenA_cons (lenA_cons lenA_nil))))
  (pss3_one (ps3_ret (pe3_tup (pa3_cons (pe3_call (A .law_sip) (hr.mono (by omega)) rfl (T.mgF .law_sip) (T.fn .law_sip).kp (T.bd .law_sip) (takes_of rfl rfl rfl rfl) (pa3_cons (pe3_var 0) (pa3_cons pe3_int pa3_nil)) rfl (lenA_cons (lenA_cons lenA_nil))) (pa3_cons (pe3_call (A .law_sip) (hr.mono (by omega)) rfl (T.mgF .law_sip) (T.fn .law_sip).kp (T.bd .law_sip) (takes_of rfl rfl rfl rfl) (pa3_cons (pe3_var 0) (pa3_cons pe3_int pa3_nil)) rfl (lenA_cons (lenA_cons lenA_nil))) (pa3_cons (pe3_var 1) (pa3_cons (pe3_call (A .law_sip) (hr.mono (by omega)) rfl (T.mgF .law_sip) (T.fn .law_sip).kp (T.bd .law_sip) (takes_of rfl rfl rfl rfl) (pa3_cons (pe3_var 0) (pa3_cons pe3_int pa3_nil)) rfl (lenA_cons (lenA_cons lenA_nil))) pa3_nil))))))))
theorem d_law_read : FnOk P w K mg base (L2.CX P w) (3 * n + 2 + 1) (He.fAd K (nm .law_read, none)) (fd .law_read) (ps .law_read) (spOf (zOf K P w) (ar .law_read) (runB (b_law_read (run n)) 7)) :=
  fn3D (T.fn .law_read) sc_law_read rfl rfl fun cdv A0 outer s H E hc hr =>
  (pss3_cons (ps3_set (i := 1) sc_law_read.nd rfl (Or.inl rfl) (pe3_split rfl (pe3_var 0) pe3_str))
  (pss3_cons (ps3_if (PW.pt (pw3_or (pt3_cmp (o_eq rfl (u64 hr)) (pe3_bin o_mod (pe3_bi (c_lenV rfl) rfl T.n_len bt_len (pa3_cons (pe3_var 1) pa3_nil)) pe3_int) pe3_int) (pw3_or1 (pt3_cmp (o_lt rfl (u64 hr)) (pe3_bi (c_lenV rfl) rfl T.n_len bt_len (pa3_cons (pe3_var 1) pa3_nil)) pe3_int)))) (pss3_one (ps3_ret pe3_non)) pss3_nil)
  (pss3_cons (ps3_set (i := 2) sc_law_read.nd rfl (Or.inl rfl) (pe3_lst pa3_nil))
  (pss3_cons (ps3_for (t := (.one 3)) rfl (passes_of rfl) rfl (pi3_rgE rfl T.n_range (pe3_bi (c_lenV rfl) rfl T.n_len bt_len (pa3_cons (pe3_var 1) pa3_nil))) (pg3_one sc_law_read.nd rfl (Or.inl rfl)) (slots_ok (n := 7) (by decide)) (pss3_cons (ps3_set (i := 4) sc_law_read.nd rfl (Or.inl rfl) (pe3_if (pt3_cmp (o_lt rfl (u64 hr)) (pe3_var 3) pe3_int) (pe3_ix (o_ix rfl) (pe3_lstV (pa3_cons pe3_str (pa3_cons pe3_str (pa3_cons pe3_str pa3_nil)))) (pe3_bin o_div (pe3_var 3) pe3_int)) pe3_str))
  (pss3_cons (ps3_set (i := 5) sc_law_read.nd rfl (Or.inl rfl) (pe3_ix (o_ix rfl) (pe3_var 1) (pe3_bin (o_addV rfl) (pe3_var 3) pe3_int)))
  (pss3_cons (ps3_if (PW.pt (pw3_or (pt3_cmp (o_ne rfl (u64 hr)) (pe3_ix (o_ix rfl) (pe3_var 1) (pe3_var 3)) (pe3_var 4)) (pw3_or1 (pt3_not (pt3_chain o_le o_le pe3_int (pe3_bi (c_lenV rfl) rfl T.n_len bt_len (pa3_cons (pe3_var 5) pa3_nil)) pe3_int))))) (pss3_one (ps3_ret pe3_non)) pss3_nil)
  (pss3_cons (ps3_if (pt3_cmp (o_ne rfl (u64 hr)) (pe3_strip (pe3_var 5) pe3_str) pe3_str) (pss3_one (ps3_ret pe3_non)) pss3_nil)
  (pss3_cons (ps3_if (pt3_cmp (o_ne rfl (u64 hr)) (pe3_ty (c_str) rfl T.n_str bt_str (pa3_cons (pe3_ty c_intS rfl T.n_int bt_int (pa3_cons (pe3_var 5) pa3_nil)) pa3_nil)) (pe3_var 5)) (pss3_one (ps3_ret pe3_non)) pss3_nil)
  (pss3_one (ps3_exp (pe3_app rfl (pe3_var 2) (pe3_ty c_intS rfl T.n_int bt_int (pa3_cons (pe3_var 5) pa3_nil)))))))))))
  (pss3_cons (ps3_set (i := 6) sc_law_read.nd rfl (Or.inl rfl) (pe3_tup (pa3_cons (pe3_ix (o_ix rfl) (pe3_var 2) pe3_int) (pa3_cons (pe3_ix (o_ix rfl) (pe3_var 2) pe3_int) (pa3_cons (pe3_ty (c_tuple rfl) rfl T.n_tuple bt_tuple (pa3_cons (pe3_slV rfl (pe3_var 2) (po3_some pe3_int) po3_none) pa3_nil)) (pa3_cons (pe3_ix (o_ix rfl) (pe3_var 2) pe3_int) pa3_nil))))))
  (pss3_one (ps3_ret (pe3_if (pt3_val (pe3_call (A .is_rule) (hr.mono (by omega)) rfl (T.mgF .is_rule) (T.fn .is_rule).kp (T.bd .is_rule) (takes_of rfl rfl rfl rfl) (pa3_cons (pe3_var 6) pa3_nil) rfl (lenA_cons lenA_nil))) (pe3_var 6) pe3_non))))))))
theorem d_law_writing : FnOk P w K mg base (L2.CX P w) (3 * n + 2 + 1) (He.fAd K (nm .law_writing, none)) (fd .law_writing) (ps .law_writing) (spOf (zOf K P w) (ar .law_writing) (runB (b_law_writing (run n)) 3)) :=
  fn3D (T.fn .law_writing) sc_law_writing rfl rfl fun cdv A0 outer s H E hc hr =>
  (pss3_cons (ps3_set (i := 1) sc_law_writing.nd rfl (Or.inl rfl) (pe3_bin (o_addV rfl) (pe3_bin (o_addV rfl) (pe3_bin (o_addV rfl) pe3_str (pe3_ty (c_str) rfl T.n_str bt_str (pa3_cons (pe3_ix (o_ix rfl) (pe3_var 0) pe3_int) pa3_nil))) pe3_str) (pe3_ty (c_str) rfl T.n_str bt_str (pa3_cons (pe3_ix (o_ix rfl) (pe3_var 0) pe3_int) pa3_nil))))
  (pss3_cons (ps3_set (i := 1) sc_law_writing.nd rfl (Or.inl rfl) (pe3_bin (o_addV rfl) (pe3_bin (o_addV rfl) (pe3_var 1) pe3_str) (pe3_ty (c_str) rfl T.n_str bt_str (pa3_cons (pe3_ix (o_ix rfl) (pe3_var 0) pe3_int) pa3_nil))))
  (pss3_cons (ps3_for (t := (.one 2)) rfl (passes_of rfl) rfl (pi3_seq rfl (pe3_ix (o_ix rfl) (pe3_var 0) pe3_int)) (pg3_one sc_law_writing.nd rfl (Or.inl rfl)) (slots_ok (n := 3) (by decide)) (pss3_one (ps3_set (i := 1) sc_law_writing.nd rfl (Or.inl rfl) (pe3_bin (o_addV rfl) (pe3_bin (o_addV rfl) (pe3_var 1) pe3_str) (pe3_ty (c_str) rfl T.n_str bt_str (pa3_cons (pe3_var 2) pa3_nil))))))
  (pss3_one (ps3_ret (pe3_var 1))))))
theorem d_law_tried : FnOk P w K mg base (L2.CX P w) (3 * n + 2 + 1) (He.fAd K (nm .law_tried, none)) (fd .law_tried) (ps .law_tried) (spOf (zOf K P w) (ar .law_tried) (runB (b_law_tried (run n)) 2)) :=
  fn3D (T.fn .law_tried) sc_law_tried rfl rfl fun cdv A0 outer s H E hc hr =>
  (pss3_cons (ps3_set (i := 1) sc_law_tried.nd rfl (Or.inl rfl) (pe3_word (k := 3 * n) rfl T.mgW T.wd T.wb sc_law_word (Or.inl rfl) (fun _ => gives_w rfl rfl T) (TB ("_law_tried", none) tf_law_tried) hc tm_law_tried (tu_law_tried T) hr (LamX.lamS_by (sc := defScope s_law_tried) (by decide +kernel)) (fun A2 outer2 s2 H2 E2 f2 c2 hr2 => (pe3_call (A .read_rule) hr2 rfl (T.mgF .read_rule) (T.fn .read_rule).kp (T.bd .read_rule) (takes_of rfl rfl rfl rfl) (pa3_cons (pe3_var 0) pa3_nil) rfl (lenA_cons lenA_nil)))))
  (pss3_one (ps3_ret (pe3_if (pt3_cmp (o_eq rfl (u64 hr)) (pe3_var 1) pe3_str) (pe3_call (A .read_rule) (hr.mono (by omega)) rfl (T.mgF .read_rule) (T.fn .read_rule).kp (T.bd .read_rule) (takes_of rfl rfl rfl rfl) (pa3_cons (pe3_var 0) pa3_nil) rfl (lenA_cons lenA_nil)) (pe3_var 1)))))
theorem d_law_bent : FnOk P w K mg base (L2.CX P w) (3 * n + 2 + 1) (He.fAd K (nm .law_bent, none)) (fd .law_bent) (ps .law_bent) (spOf (zOf K P w) (ar .law_bent) (runB (b_law_bent (run n)) 4)) :=
  fn3D (T.fn .law_bent) sc_law_bent rfl rfl fun cdv A0 outer s H E hc hr =>
  (pss3_cons (ps3_set (i := 2) sc_law_bent.nd rfl (Or.inl rfl) (pe3_lstV (pa3_cons pe3_str (pa3_cons pe3_str (pa3_cons pe3_str (pa3_cons pe3_str (pa3_cons pe3_str (pa3_cons pe3_str (pa3_cons pe3_str (pa3_cons pe3_str (pa3_cons pe3_str (pa3_cons pe3_str (pa3_cons pe3_str (pa3_cons pe3_str (pa3_cons pe3_str pa3_nil)))))))))))))))
  (pss3_cons (ps3_set (i := 2) sc_law_bent.nd rfl (Or.inl rfl) (pe3_bin (o_addV rfl) (pe3_var 2) (pe3_lstV (pa3_cons pe3_str (pa3_cons pe3_str (pa3_cons pe3_str pa3_nil))))))
  (pss3_cons (ps3_set (i := 3) sc_law_bent.nd rfl (Or.inl rfl) (pe3_call (A .law_sip) (hr.mono (by omega)) rfl (T.mgF .law_sip) (T.fn .law_sip).kp (T.bd .law_sip) (takes_of rfl rfl rfl rfl) (pa3_cons (pe3_var 0) (pa3_cons (pe3_bin (o_addV rfl) (pe3_bi (c_lenV rfl) rfl T.n_len bt_len (pa3_cons (pe3_var 1) pa3_nil)) pe3_int) pa3_nil)) rfl (lenA_cons (lenA_cons lenA_nil))))
  (pss3_one (ps3_ret (pe3_bin (o_addV rfl) (pe3_bin (o_addV rfl) (pe3_slS (pe3_var 1) po3_none (po3_some (pe3_var 3))) (pe3_call (A .law_some) (hr.mono (by omega)) rfl (T.mgF .law_some) (T.fn .law_some).kp (T.bd .law_some) (takes_of rfl rfl rfl rfl) (pa3_cons (pe3_var 0) (pa3_cons (pe3_var 2) pa3_nil)) rfl (lenA_cons (lenA_cons lenA_nil)))) (pe3_slS (pe3_var 1) (po3_some (pe3_bin (o_addV rfl) (pe3_var 3) (pe3_call (A .law_sip) (hr.mono (by omega)) rfl (T.mgF .law_sip) (T.fn .law_sip).kp (T.bd .law_sip) (takes_of rfl rfl rfl rfl) (pa3_cons (pe3_var 0) (pa3_cons pe3_int pa3_nil)) rfl (lenA_cons (lenA_cons lenA_nil))))) po3_none)))))))
theorem d_law : FnOk P w K mg base (L2.CX P w) (3 * n + 2 + 1) (He.fAd K (nm .law, none)) (fd .law) (ps .law) (spOf (zOf K P w) (ar .law) (runB (b_law (run n)) 11)) :=
  fn3D (T.fn .law) sc_law rfl rfl fun cdv A0 outer s H E hc hr =>
  (pss3_cons (ps3_for (t := (.one 1)) rfl (passes_of rfl) rfl (pi3_rg1 rfl T.n_range (pe3_bin (o_addV rfl) pe3_int (pe3_bi (c_min rfl rfl) rfl T.n_min bt_min (pa3_cons (pe3_bi (c_lenV rfl) rfl T.n_len bt_len (pa3_cons (pe3_var 0) pa3_nil)) (pa3_cons pe3_int pa3_nil))))) (pg3_one sc_law.nd rfl (Or.inl rfl)) (slots_ok (n := 11) (by decide)) (pss3_cons (ps3_set (i := 2) sc_law.nd rfl (Or.inl rfl) (pe3_call (A .law_flask_of) (hr.mono (by omega)) rfl (T.mgF .law_flask_of) (T.fn .law_flask_of).kp (T.bd .law_flask_of) (takes_of rfl rfl rfl rfl) (pa3_cons (pe3_var 0) (pa3_cons (pe3_var 1) pa3_nil)) rfl (lenA_cons (lenA_cons lenA_nil))))
  (pss3_cons (ps3_for (t := (.one 3)) rfl (passes_of rfl) rfl (pi3_rg1 rfl T.n_range pe3_int) (pg3_one sc_law.nd rfl (Or.inl rfl)) (slots_ok (n := 11) (by decide)) (pss3_cons (ps3_set (i := 4) sc_law.nd rfl (Or.inl rfl) (pe3_call (A .law_code) (hr.mono (by omega)) rfl (T.mgF .law_code) (T.fn .law_code).kp (T.bd .law_code) (takes_of rfl rfl rfl rfl) (pa3_cons (pe3_var 2) pa3_nil) rfl (lenA_cons lenA_nil)))
  (pss3_cons (ps3_set (i := 5) sc_law.nd rfl (Or.inl rfl) (pe3_call (A .law_writing) (hr.mono (by omega)) rfl (T.mgF .law_writing) (T.fn .law_writing).kp (T.bd .law_writing) (takes_of rfl rfl rfl rfl) (pa3_cons (pe3_var 4) pa3_nil) rfl (lenA_cons lenA_nil)))
  (pss3_cons (ps3_if (PW.pt (pw3_or (pt3_cmp (o_ne rfl (u64 hr)) (pe3_call (A .rule_text) (hr.mono (by omega)) rfl (T.mgF .rule_text) (T.fn .rule_text).kp (T.bd .rule_text) (takes_of rfl rfl rfl rfl) (pa3_cons (pe3_var 4) pa3_nil) rfl (lenA_cons lenA_nil)) (pe3_var 5)) (pw3_or1 (pt3_cmp (o_ne rfl (u64 hr)) (pe3_call (A .law_tried) (hr.mono (by omega)) rfl (T.mgF .law_tried) (T.fn .law_tried).kp (T.bd .law_tried) (takes_of rfl rfl rfl rfl) (pa3_cons (pe3_var 5) pa3_nil) rfl (lenA_cons lenA_nil)) (pe3_var 4))))) (pss3_one (ps3_ret pe3_bl)) pss3_nil)
  (pss3_one (ps3_for (t := (.one 6)) rfl (passes_of rfl) rfl (pi3_rg1 rfl T.n_range pe3_int) (pg3_one sc_law.nd rfl (Or.inl rfl)) (slots_ok (n := 11) (by decide)) (pss3_cons (ps3_set (i := 5) sc_law.nd rfl (Or.inl rfl) (pe3_call (A .law_bent) (hr.mono (by omega)) rfl (T.mgF .law_bent) (T.fn .law_bent).kp (T.bd .law_bent) (takes_of rfl rfl rfl rfl) (pa3_cons (pe3_var 2) (pa3_cons (pe3_var 5) pa3_nil)) rfl (lenA_cons (lenA_cons lenA_nil))))
  (pss3_cons (ps3_set (i := 7) sc_law.nd rfl (Or.inl rfl) (pe3_callG (A .law_read) (hr.mono (by omega)) rfl (T.mgF .law_read) (T.fn .law_read).kp (T.bd .law_read) (takes_of rfl rfl rfl rfl) (pa3_cons (pe3_var 5) pa3_nil) rfl (lenA_cons lenA_nil)))
  (pss3_one (ps3_if (pt3_cmp (o_ne rfl (u64 hr)) (pe3_call (A .law_tried) (hr.mono (by omega)) rfl (T.mgF .law_tried) (T.fn .law_tried).kp (T.bd .law_tried) (takes_of rfl rfl rfl rfl) (pa3_cons (pe3_var 5) pa3_nil) rfl (lenA_cons lenA_nil)) (pe3_if (pt3_cmp o_is (pe3_var 7) pe3_non) pe3_str (pe3_var 7))) (pss3_one (ps3_ret pe3_bl)) pss3_nil))))))))))
  (pss3_one (ps3_for (t := (.one 8)) rfl (passes_of rfl) rfl (pi3_seq rfl (pe3_lstV (pa3_cons pe3_non (pa3_cons pe3_int (pa3_cons (pe3_tup (pa3_cons (pe3_var 5) pa3_nil)) (pa3_cons (pe3_lstV (pa3_cons (pe3_var 5) pa3_nil)) (pa3_cons pe3_bl (pa3_cons (pe3_var 4) pa3_nil)))))))) (pg3_one sc_law.nd rfl (Or.inl rfl)) (slots_ok (n := 11) (by decide)) (pss3_one (ps3_if (pt3_cmp (o_ne rfl (u64 hr)) (pe3_call (A .law_tried) (hr.mono (by omega)) rfl (T.mgF .law_tried) (T.fn .law_tried).kp (T.bd .law_tried) (takes_of rfl rfl rfl rfl) (pa3_cons (pe3_var 8) pa3_nil) rfl (lenA_cons lenA_nil)) pe3_str) (pss3_one (ps3_ret pe3_bl)) pss3_nil)))))))
  (pss3_cons (ps3_set (i := 9) sc_law.nd rfl (Or.inl rfl) (pe3_lst (pa3_cons pe3_str (pa3_cons pe3_str (pa3_cons pe3_str (pa3_cons pe3_str (pa3_cons pe3_str pa3_nil)))))))
  (pss3_cons (ps3_set (i := 9) sc_law.nd rfl (Or.inl rfl) (pe3_bin (o_add rfl) (pe3_var 9) (pe3_lst (pa3_cons pe3_str (pa3_cons pe3_str pa3_nil)))))
  (pss3_cons (ps3_exp (pe3_app rfl (pe3_var 9) pe3_str))
  (pss3_cons (ps3_set (i := 9) sc_law.nd rfl (Or.inl rfl) (pe3_bin (o_add rfl) (pe3_var 9) (pe3_lst (pa3_cons pe3_str (pa3_cons pe3_str pa3_nil)))))
  (pss3_cons (ps3_exp (pe3_app rfl (pe3_var 9) pe3_str))
  (pss3_cons (ps3_exp (pe3_app rfl (pe3_var 9) pe3_str))
  (pss3_cons (ps3_if (pt3_cmp (o_ne rfl (u64 hr)) (pe3_lcV (own := [("row", 10)]) (t := (.one 10)) rfl rfl sc_law.nd (pi3_seq rfl (pe3_var 9)) (blkOk_by (own := [("row", 10)]) (N := N_law) (sc := defScope s_law) (by decide +kernel)) (slots_ok (n := 11) (by decide)) (by decide) (fun _ _ _ _ _ => (pg3_one sc_law.nd rfl (Or.inl rfl))) (fun _ _ _ _ _ => (pts3_one (pt3_cmp (o_ne rfl (u64 hr)) (pe3_call (A .law_tried) (hr.mono (by omega)) rfl (T.mgF .law_tried) (T.fn .law_tried).kp (T.bd .law_tried) takes0 (pa3_cons (pe3_var 10) pa3_nil) rfl (lenA_cons lenA_nil)) pe3_str))) (fun _ _ _ _ _ => (pe3_var 10))) (pe3_lstV pa3_nil)) (pss3_one (ps3_ret pe3_bl)) pss3_nil)
  (pss3_cons (ps3_if (pt3_cmp (o_ne rfl (u64 hr)) (pe3_call (A .rule_text) (hr.mono (by omega)) rfl (T.mgF .rule_text) (T.fn .rule_text).kp (T.bd .rule_text) (takes_of rfl rfl rfl rfl) (pa3_cons (pe3_tup (pa3_cons pe3_int (pa3_cons pe3_int (pa3_cons (pe3_tup (pa3_cons pe3_int (pa3_cons pe3_int pa3_nil))) (pa3_cons pe3_int pa3_nil))))) pa3_nil) rfl (lenA_cons lenA_nil)) pe3_str) (pss3_one (ps3_ret pe3_bl)) pss3_nil)
  (pss3_one (ps3_ret (pe3_cmp (o_eq rfl (u64 hr)) (pe3_call (A .read_rule) (hr.mono (by omega)) rfl (T.mgF .read_rule) (T.fn .read_rule).kp (T.bd .read_rule) (takes_of rfl rfl rfl rfl) (pa3_cons pe3_str pa3_nil) rfl (lenA_cons lenA_nil)) (pe3_tup (pa3_cons pe3_int (pa3_cons pe3_int (pa3_cons (pe3_tup pa3_nil) (pa3_cons pe3_int pa3_nil)))))))))))))))))
end
end L3

namespace L3
open PySem L2
theorem fl_isB {k : Nat} {g : GH} {d : D} (h : flD k d = true) (t : BT) : isB t d g = some (match t, d with
    | .tint, .int _ => true | .tint, .bl _ => true | .tbool, .bl _ => true | .ttuple, .tup _ => true | .tlist, .rol _ => true | .tstr, .str _ => true | _, _ => false) := by
  cases k with
  | zero => cases h
  | succ k =>
    cases d with
    | ref i => cases h
    | scr ds => cases h
    | _ => cases t <;> rfl
theorem fl_mem {k : Nat} {ds : List D} (h : flD k (.tup ds) = true) : ∀ x ∈ ds, flD (k - 1) x = true := by
  cases k with
  | zero => cases h
  | succ k => exact fun x hx => List.all_eq_true.mp h x hx
def isI (d : D) (lo hi : Int) : Bool := match d with
  | .int i => decide (lo ≤ i) && decide (i ≤ hi)
  | _ => false
theorem isI_int {d : D} {lo hi : Int} (h : isI d lo hi = true) : ∃ i, d = .int i ∧ lo ≤ i ∧ i ≤ hi := by
  cases d <;> simp [isI] at h
  exact ⟨_, rfl, h.1, h.2⟩
@[simp] theorem isI_i (i lo hi : Int) : isI (.int i) lo hi = (decide (lo ≤ i) && decide (i ≤ hi)) := rfl
theorem isint_eq {n k : Nat} {g : GH} {d : D} {lo hi : Int} (h : flD k d = true) : run (n+1) .is_int [d, .int lo, .int hi] g = .ok (.bl (isI d lo hi)) g := by
  apply eq_of_wp
  show wp (runB (b_is_int (run n)) 3 _ g) _ _
  cases d with
  | int i =>
    by_cases h1 : lo ≤ i <;> simp [b_is_int, isI, h1] <;> omega
  | _ => simp [b_is_int, fl_isB h, isI]
@[simp] theorem isint_i {n : Nat} {g : GH} {i lo hi : Int} : run (n+1) .is_int [.int i, .int lo, .int hi] g = .ok (.bl (decide (lo ≤ i) && decide (i ≤ hi))) g := isint_eq (k := 1) rfl

abbrev dgS : Str := "0123456789"
def isDg (c : Nat) : Bool := decide (c ∈ dgS.cps.toList)
def allDg (w : Str) : Bool := w.cps.toList.all isDg
theorem one_int : ∀ a ∈ dgS.cps.toList, (match PySem.intText? ⟨#[a]⟩ with | some n => decide (0 ≤ n) && decide (n ≤ 99) | none => false) = true := by decide +kernel
theorem two_int : ∀ a ∈ dgS.cps.toList, ∀ b ∈ dgS.cps.toList, (match PySem.intText? ⟨#[a, b]⟩ with | some n => decide (0 ≤ n) && decide (n ≤ 99) | none => false) = true := by decide +kernel
theorem len_cases {w : Str} (h1 : 1 ≤ w.length) (h2 : w.length ≤ 2) : (∃ a, w = ⟨#[a]⟩) ∨ ∃ a b, w = ⟨#[a, b]⟩ := by
  obtain ⟨cps⟩ := w
  obtain ⟨l⟩ := cps
  have h1' : 1 ≤ l.length := h1
  have h2' : l.length ≤ 2 := h2
  match l, h1', h2' with
  | [a], _, _ => exact .inl ⟨a, rfl⟩
  | [a, b], _, _ => exact .inr ⟨a, b, rfl⟩
theorem int_dg {w : Str} (h1 : 1 ≤ w.length) (h2 : w.length ≤ 2) (h : allDg w = true) : ∃ n, PySem.intText? w = some n ∧ 0 ≤ n ∧ n ≤ 99 := by
  rcases len_cases h1 h2 with ⟨a, rfl⟩ | ⟨a, b, rfl⟩
  · have ha : a ∈ dgS.cps.toList := by
      simpa [allDg, isDg] using h
    have := one_int a ha
    split at this
    · rename_i n e
      simp at this
      exact ⟨n, e, this.1, this.2⟩
    · cases this
  · have hab : a ∈ dgS.cps.toList ∧ b ∈ dgS.cps.toList := by
      simpa [allDg, isDg] using h
    have := two_int a hab.1 b hab.2
    split at this
    · rename_i n e
      simp at this
      exact ⟨n, e, this.1, this.2⟩
    · cases this
def numS (n : Int) : Str := Str.ofString (toString n)
/-- the number that a word writes -/
def numB (w : Str) : Option Int := if decide (1 ≤ w.length) && (decide (w.length ≤ 2) && allDg w) then (match PySem.intText? w with
  | some n => if numS n = w then some n else none
  | none => none) else none
def optD : Option Int → D
  | some n => .int n
  | none => .non
theorem eq_strs {Q : D → GH → Prop} {g : GH} {a b : Str} (ha : PyData.strOk a = true) (hb : PyData.strOk b = true) : wpo (opEq (.str a) (.str b) g) Q = Q (.bl (decide (a = b))) g := by
  rw [eq_fl (by simpa using ha) (by simpa using hb)]
  simp
theorem ne_strs {Q : D → GH → Prop} {g : GH} {a b : Str} (ha : PyData.strOk a = true) (hb : PyData.strOk b = true) : wpo (opNe (.str a) (.str b) g) Q = Q (.bl (!decide (a = b))) g := by
  rw [ne_fl (by simpa using ha) (by simpa using hb)]
  simp
theorem toS_ok : ∀ n : Nat, n ≤ 99 → PyData.strOk (numS (n : Int)) = true := by
  have : ∀ n : Nat, n < 100 → PyData.strOk (numS (n : Int)) = true := by decide +kernel
  exact fun n h => this n (by omega)
theorem toS_int {n : Int} (h0 : 0 ≤ n) (h1 : n ≤ 99) : PyData.strOk (numS n) = true := by
  obtain ⟨k, rfl⟩ := Int.eq_ofNat_of_zero_le h0
  exact toS_ok k (by omega)
theorem fStr_int {Q : D → GH → Prop} {g : GH} {n : Int} (h0 : 0 ≤ n) (h1 : n ≤ 99) : wpo (fStr [.int n] g) Q = Q (.str (numS n)) g := by
  have : n.natAbs.log2 < 1920 := by
    have := Nat.log2_le_self n.natAbs
    omega
  show wpo (if n.natAbs.log2 < 1920 then some (.str (Str.ofString (toString n)), g) else none) Q = _
  rw [if_pos this]
  rfl
theorem lenV_str {Q : D → GH → Prop} {g : GH} {z : Str} (h : z.length ≤ 16777216) : wpo (fLenV [.str z] g) Q = Q (.int z.length) g := by
  show wpo (if z.length ≤ 16777216 then some (.int z.length, g) else none) Q = _
  rw [if_pos h]
  rfl
theorem number_in_eq {n : Nat} {g : GH} {w : Str} (hw : PyData.strOk w = true) (hl : w.length ≤ 640) : run (n+1) .number_in [.str w] g = .ok (optD (numB w)) g := by
  apply eq_of_wp
  rw [r_number_in]
  have h16 : w.length ≤ 16777216 := by omega
  have none_of : ¬ (decide (1 ≤ w.length) && (decide (w.length ≤ 2) && allDg w)) = true → numB w = none := fun h => if_neg h
  by_cases c1 : 1 ≤ w.length
  · by_cases c2 : w.length ≤ 2
    · have c1' : ¬ (w.length : Int) < 1 := by omega
      have c2' : ¬ (2 : Int) < (w.length : Int) := by omega
      have c1p : (1 : Int) ≤ (w.length : Int) := by omega
      have c2p : (w.length : Int) ≤ 2 := by omega
      have chars : charsD w = w.cps.toList.map fun c : Nat => D.str ⟨#[c]⟩ := rfl
      have lc : w.cps.toList.length = w.length := Array.length_toList
      have okc : ∀ c ∈ w.cps.toList, PyData.strOk ⟨#[c]⟩ = true := fun c hc => by
        simp only [PyData.strOk] at hw ⊢
        rw [← Array.all_toList, List.all_eq_true] at hw
        simpa using hw c hc
      simp [b_number_in, lenV_str h16, c1', c2', c1p, c2p]
      rw [chars]
      refine ⟨by simp [lc]; omega, comp_map (enc := fun c : Nat => D.str ⟨#[c]⟩) (fun c => !isDg c) (fun c => D.str ⟨#[c]⟩) w.cps.toList (fun c hc => ⟨_, rfl, ?_⟩) ?_⟩
      · simp [wipeR, -Bool.exists_bool]
        simp [isDg]
      · have fl : flD 16 (.rol ((w.cps.toList.filter fun c => !isDg c).map fun c => D.str ⟨#[c]⟩)) = true := by
          rw [flD_rol, List.all_eq_true]
          intro x hx
          obtain ⟨c, hc, rfl⟩ := List.mem_map.mp hx
          exact okc c (List.mem_filter.mp hc).1
        rw [ne_fl fl rfl]
        by_cases c3 : allDg w = true
        · have e0 : (w.cps.toList.filter fun c => !isDg c) = [] := by
            rw [List.filter_eq_nil_iff]
            intro c hc
            have := List.all_eq_true.mp c3 c hc
            simp [this]
          obtain ⟨m, e1, m0, m1⟩ := int_dg c1 c2 c3
          rw [e0]
          simp
          rw [ltr_eq, wps_sNil]
          dsimp only
          rw [ltr_eq]
          have hnb : numB w = if numS m = w then some m else none := by
            unfold numB
            rw [if_pos (by simp [c1, c2, c3]), e1]
          simp [intS_str e1 hl]
          rw [fStr_int m0 m1, eq_strs (toS_int m0 m1) hw, hnb]
          by_cases c4 : numS m = w
          · simp [c4, intS_str e1 hl, optD]
          · simp [c4, optD]
        · have e0 : ¬ (w.cps.toList.filter fun c => !isDg c) = [] := fun z => c3 (by
            unfold allDg
            rw [List.all_eq_true]
            intro c hc
            have := List.filter_eq_nil_iff.mp z c hc
            simpa using this)
          have e1 : decide (nrm (.rol ((w.cps.toList.filter fun c => !isDg c).map fun c => D.str ⟨#[c]⟩)) = nrm (.rol [])) = false := by
            rw [decide_eq_false_iff_not]
            intro z
            simp only [nrm_rol, D.rol.injEq, List.map_nil, List.map_eq_nil_iff] at z
            exact e0 z
          rw [e1]
          simp
          rw [ltr_eq]
          simp [none_of (by simp [c3]), optD]
    · have c1p : (1 : Int) ≤ (w.length : Int) := by omega
      have c2' : (2 : Int) < (w.length : Int) := by omega
      have c2p : ¬ (w.length : Int) ≤ 2 := by omega
      simp [b_number_in, lenV_str h16, c1p, c2', c2p]
      rw [ltr_eq]
      simp [none_of (by simp [c2]), optD]
  · have c1p : ¬ (1 : Int) ≤ (w.length : Int) := by omega
    have c1' : (w.length : Int) < 1 := by omega
    simp [b_number_in, lenV_str h16, c1p, c1']
    rw [ltr_eq]
    simp [none_of (by simp [c1]), optD]

structure Lb where
  l : Str
  f : Str
deriving DecidableEq
def flatP : List Lb → List Str
  | [] => []
  | p :: ps => p.l :: p.f :: flatP ps
def toPairs : List Str → Option (List Lb)
  | [] => some []
  | [_] => none
  | x :: y :: r => (toPairs r).map fun ps => ⟨x, y⟩ :: ps
theorem toPairs_some : ∀ (ws : List Str) (ps : List Lb), toPairs ws = some ps → ws = flatP ps
  | [], ps, h => by simp [toPairs] at h; subst h; rfl
  | [_], _, h => by simp [toPairs] at h
  | x :: y :: r, ps, h => by
    simp only [toPairs, Option.map_eq_some_iff] at h
    obtain ⟨qs, h1, rfl⟩ := h
    rw [toPairs_some r qs h1]
    rfl
theorem toPairs_none : ∀ ws : List Str, toPairs ws = none → ws.length % 2 = 1
  | [], h => by simp [toPairs] at h
  | [_], _ => rfl
  | x :: y :: r, h => by
    simp only [toPairs, Option.map_eq_none_iff] at h
    have := toPairs_none r h
    simp only [List.length_cons]
    omega
theorem flatP_len : ∀ ps : List Lb, (flatP ps).length = 2 * ps.length
  | [] => rfl
  | p :: ps => by simp [flatP, flatP_len ps]; omega
theorem flatP_l : ∀ (ps : List Lb) (k : Nat), (flatP ps)[2 * k]? = (ps[k]?).map Lb.l
  | [], _ => by simp [flatP]
  | p :: ps, 0 => rfl
  | p :: ps, k + 1 => by
    have := flatP_l ps k
    have e : 2 * (k + 1) = 2 * k + 1 + 1 := by omega
    rw [e]
    simpa [flatP] using this
theorem flatP_f : ∀ (ps : List Lb) (k : Nat), (flatP ps)[2 * k + 1]? = (ps[k]?).map Lb.f
  | [], _ => by simp [flatP]
  | p :: ps, 0 => rfl
  | p :: ps, k + 1 => by
    have := flatP_f ps k
    have e : 2 * (k + 1) + 1 = 2 * k + 1 + 1 + 1 := by omega
    rw [e]
    simpa [flatP] using this
theorem filterMap_ix {α : Type} (xs : List α) : ∀ (d m : Nat), d + m = xs.length → (List.range m).filterMap (fun k => xs[d + k]?) = xs.drop d
  | d, 0, h => by rw [List.drop_of_length_le (by omega)]; rfl
  | d, m + 1, h => by
    have ih := filterMap_ix xs (d + 1) m (by omega)
    rw [List.range_succ_eq_map, List.filterMap_cons, List.filterMap_map]
    have e : xs[d + 0]? = some (xs[d]'(by omega)) := by simp
    rw [e]
    have e2 : (fun k => xs[d + (k + 1)]?) = fun k => xs[d + 1 + k]? := by
      funext k
      congr 1
      omega
    show _ :: (List.range m).filterMap (fun k => xs[d + (k + 1)]?) = _
    rw [e2, ih, ← List.drop_eq_getElem_cons]
theorem srange {a m c e : Nat} (hc : (if (a : Int) < (2 * m : Nat) then (((2 * m : Nat) : Int) - a + 2 - 1) / 2 else 0) = (c : Int)) : sliceRange (a : Int) ((2 * m : Nat) : Int) 2 = (List.range c).map fun k => a + 2 * k := by
  unfold sliceRange
  simp only [show ((2 : Int) > 0) = True by simp, if_true]
  rw [hc, Int.toNat_natCast]
  apply List.map_congr_left
  intro k _
  omega
theorem ix_0 (m : Nat) : ix2 none (2 * m) = (List.range m).map fun k => 2 * (0 + k) := by
  show sliceRange ((0 : Nat) : Int) ((2 * m : Nat) : Int) 2 = _
  rw [srange (c := m) (e := 0) (by split <;> omega)]
  apply List.map_congr_left
  intro k _
  omega
theorem ix_1 (m : Nat) (h : 0 < m) : ix2 (some 1) (2 * m) = (List.range m).map fun k => 2 * (0 + k) + 1 := by
  have e : ix2 (some 1) (2 * m) = sliceRange ((1 : Nat) : Int) ((2 * m : Nat) : Int) 2 := by
    show sliceRange (max 0 (min (if (1 : Int) < 0 then 1 + ((2 * m : Nat) : Int) else 1) ((2 * m : Nat) : Int))) ((2 * m : Nat) : Int) 2 = _
    congr 1
    rw [if_neg (by decide)]
    omega
  rw [e, srange (c := m) (e := 0) (by split <;> omega)]
  apply List.map_congr_left
  intro k _
  omega
theorem ix_6 (m : Nat) (h : 3 ≤ m) : ix2 (some 6) (2 * m) = (List.range (m - 3)).map fun k => 2 * (3 + k) := by
  have e : ix2 (some 6) (2 * m) = sliceRange ((6 : Nat) : Int) ((2 * m : Nat) : Int) 2 := by
    show sliceRange (max 0 (min (if (6 : Int) < 0 then 6 + ((2 * m : Nat) : Int) else 6) ((2 * m : Nat) : Int))) ((2 * m : Nat) : Int) 2 = _
    congr 1
    rw [if_neg (by decide)]
    omega
  rw [e, srange (c := m - 3) (e := 0) (by split <;> omega)]
  apply List.map_congr_left
  intro k _
  omega
theorem pick_l {ps : List Lb} {d m : Nat} (h : d + m = ps.length) : pickN ((flatP ps).map D.str) ((List.range m).map fun k => 2 * (d + k)) = (ps.drop d).map fun p => D.str p.l := by
  unfold pickN
  rw [List.filterMap_map]
  have : ((fun i => ((flatP ps).map D.str)[i]?) ∘ fun k => 2 * (d + k)) = fun k => (ps.map fun p => D.str p.l)[d + k]? := by
    funext k
    simp only [Function.comp_def, List.getElem?_map, flatP_l, Option.map_map]
  rw [this, filterMap_ix _ d m (by simpa using h), List.map_drop]
theorem pick_f {ps : List Lb} {m : Nat} (h : m = ps.length) : pickN ((flatP ps).map D.str) ((List.range m).map fun k => 2 * (0 + k) + 1) = ps.map fun p => D.str p.f := by
  unfold pickN
  rw [List.filterMap_map]
  have : ((fun i => ((flatP ps).map D.str)[i]?) ∘ fun k => 2 * (0 + k) + 1) = fun k => (ps.map fun p => D.str p.f)[0 + k]? := by
    funext k
    simp only [Function.comp_def, List.getElem?_map, flatP_f, Option.map_map]
  rw [this, filterMap_ix _ 0 m (by simpa using h), List.drop_zero]
/-! parts of a text -/
theorem strOk_sub {s : Str} (h : PyData.strOk s = true) (i j : Nat) : PyData.strOk (Builtin.Str.strSub s i j) = true := by
  simp only [PyData.strOk, Builtin.Str.strSub] at h ⊢
  rw [← Array.all_toList, List.all_eq_true] at h ⊢
  intro c hc
  apply h
  rw [Array.toList_extract] at hc
  exact List.mem_of_mem_drop (List.mem_of_mem_take (by simpa using hc))
theorem len_sub {s : Str} (i j : Nat) : (Builtin.Str.strSub s i j).length ≤ s.length := by
  show (s.cps.extract i j).size ≤ s.cps.size
  simp
  omega
theorem split_parts {s y : Str} (h : PyData.strOk s = true) : ∀ w ∈ Txt.split s y, PyData.strOk w = true ∧ w.length ≤ s.length := by
  intro w hw
  unfold Txt.split at hw
  split at hw
  · simp at hw; subst hw; exact ⟨h, Nat.le_refl _⟩
  · split at hw
    · simp at hw; subst hw; exact ⟨h, Nat.le_refl _⟩
    · unfold Builtin.Str.partsBetween at hw
      obtain ⟨p, _, rfl⟩ := List.mem_map.mp hw
      exact ⟨strOk_sub h _ _, len_sub _ _⟩

def risB : Int → List D → Bool
  | _, [] => true
  | last, d :: ds => match d with
    | .int i => decide (last < i) && (decide (i ≤ 12) && risB i ds)
    | _ => false
def codeB (d : D) : Bool := match d with
  | .tup [a, b, .tup ps, c] => isI a 0 5 && (isI b 0 4 && (decide (ps.length ≤ 2) && (isI c 0 2 && risB 0 ps)))
  | _ => false
theorem ris_two : ∀ ps : List D, ps.length ≤ 2 → (∀ x ∈ ps, isI x 1 12 = true) → ∃ is : List Int, ps = is.map D.int ∧ decide (is = canon is) = risB 0 ps
  | [], _, _ => ⟨[], rfl, rfl⟩
  | [a], _, h => by
    obtain ⟨i, rfl, h1, h2⟩ := isI_int (h a (by simp))
    exact ⟨[i], rfl, by simp [canon, insI, risB]; omega⟩
  | [a, b], _, h => by
    obtain ⟨i, rfl, h1, h2⟩ := isI_int (h a (by simp))
    obtain ⟨j, rfl, h3, h4⟩ := isI_int (h b (by simp))
    refine ⟨[i, j], rfl, ?_⟩
    simp only [canon, insI, risB, List.foldr]
    by_cases c : i < j
    · simp [c]; omega
    · by_cases c2 : i = j
      · simp [c2]
      · simp [c, c2]
  | _ :: _ :: _ :: _, h, _ => by simp at h
theorem ris_not : ∀ (ps : List D) (a : Int), 0 ≤ a → (∃ x ∈ ps, isI x 1 12 = false) → risB a ps = false
  | [], _, _, h => by simp at h
  | d :: ds, a, ha, ⟨x, hx, h⟩ => by
    cases d with
    | int i =>
      simp only [risB]
      rcases List.mem_cons.mp hx with rfl | hx
      · simp [isI] at h
        by_cases c : a < i
        · have := h (by omega)
          simp [c]; intro; omega
        · simp [c]
      · by_cases c : a < i
        · rw [ris_not ds i (by omega) ⟨x, hx, h⟩]; simp
        · simp [c]
    | _ => simp [risB]
theorem insI_len (k : Int) : ∀ js : List Int, (insI k js).length ≤ js.length + 1
  | [] => by simp [insI]
  | j :: js => by
    unfold insI
    split
    · simp
    · split
      · simp
      · have := insI_len k js
        simp; omega
theorem canon_len : ∀ is : List Int, (canon is).length ≤ is.length
  | [] => by simp [canon]
  | i :: is => by
    have h1 := canon_len is
    have h2 := insI_len i (canon is)
    have e : canon (i :: is) = insI i (canon is) := rfl
    rw [e]
    simp; omega
theorem rules_eq {n k : Nat} {g : GH} {d : D} (h : flD k d = true) (hk : k ≤ 15) : run (n+2) .rules_so [d] g = .ok (.bl (codeB d)) g := by
  apply eq_of_wp
  show wp (runB (b_rules_so (run (n+1))) 2 _ g) _ _
  cases d with
  | tup ds =>
    by_cases hl : ds.length = 4
    · obtain ⟨a, b, p, c, rfl⟩ : ∃ a b p c, ds = [a, b, p, c] := by
        match ds, hl with
        | [a, b, p, c], _ => exact ⟨a, b, p, c, rfl⟩
      have ha := fl_mem h a (by simp)
      have hb := fl_mem h b (by simp)
      have hp := fl_mem h p (by simp)
      have hc := fl_mem h c (by simp)
      simp [b_rules_so]
      rw [ltr_eq]
      simp
      rw [ltr_eq]
      by_cases c1 : isI a 0 5 = true
      · by_cases c2 : isI b 0 4 = true
        · simp [isint_eq ha, isint_eq hb, c1, c2]
          rw [ltr_eq]
          simp
          rw [ltr_eq]
          cases p with
          | tup ps =>
            by_cases c3 : ps.length ≤ 2
            · by_cases c4 : isI c 0 2 = true
              · have c3' : ¬ (2 : Int) < ps.length := by omega
                simp [isint_eq hc, c3', c4]
                rw [ltr_eq]
                simp
                rw [ltr_eq]
                have hps := fl_mem hp
                simp
                refine ⟨by omega, comp_all (fun x => !isI x 1 12) (fun x => x) ps (fun x hx => ⟨_, rfl, ?_⟩) ?_⟩
                · simp [wipeR, isint_eq (hps x hx)]
                · have fl : flD 16 (.rol ((ps.filter fun x => !isI x 1 12).map fun x => x)) = true := by
                    rw [flD_rol, List.all_eq_true]
                    intro x hx
                    rw [List.map_id'] at hx
                    exact flD_up _ _ _ (by omega) (hps x (List.mem_filter.mp hx).1)
                  rw [ne_fl fl rfl]
                  by_cases c6 : ∀ x ∈ ps, isI x 1 12 = true
                  · have e0 : (ps.filter fun x => !isI x 1 12) = [] := List.filter_eq_nil_iff.mpr fun x hx => by simp [c6 x hx]
                    obtain ⟨is, e1, e2⟩ := ris_two ps c3 c6
                    simp [e0]
                    rw [ltr_eq]
                    simp
                    rw [ltr_eq]
                    have hl2 : is.length ≤ 2 := by rw [e1] at c3; simpa using c3
                    subst e1
                    have so : setOf g (.tup (is.map D.int)) = some ((canon is).map D.int) := by
                      simp [setOf]
                      omega
                    simp [so]
                    rw [e2]
                    simp [codeB, c1, c2, c4, hl2]
                  · have c7 : ∃ x ∈ ps, isI x 1 12 = false := by
                      simp at c6
                      exact c6
                    have e0 : ¬ (ps.filter fun x => !isI x 1 12) = [] := fun z => by
                      obtain ⟨x, hx, e⟩ := c7
                      have := List.filter_eq_nil_iff.mp z x hx
                      simp [e] at this
                    have e1 : decide (nrm (.rol ((ps.filter fun x => !isI x 1 12).map fun x => x)) = nrm (.rol [])) = false := by
                      rw [decide_eq_false_iff_not]
                      intro z
                      simp only [nrm_rol, D.rol.injEq, List.map_nil, List.map_eq_nil_iff] at z
                      exact e0 z
                    rw [e1]
                    simp
                    rw [ltr_eq]
                    simp [codeB, ris_not ps 0 (by omega) c7]
              · have c3' : ¬ (2 : Int) < ps.length := by omega
                simp at c4
                simp [isint_eq hc, c3', c4]
                rw [ltr_eq]
                simp [codeB, c4]
            · have c3' : (2 : Int) < ps.length := by omega
              simp [c3']
              rw [ltr_eq]
              simp [codeB, c3]
          | _ =>
            simp [fl_isB hp]
            rw [ltr_eq]
            simp [codeB]
        · simp at c2
          simp [isint_eq ha, isint_eq hb, c1, c2]
          rw [ltr_eq]
          have : codeB (.tup [a, b, p, c]) = false := by
            cases p <;> simp [codeB, c2]
          simp [this]
      · simp at c1
        simp [isint_eq ha, isint_eq hb, c1]
        rw [ltr_eq]
        have : codeB (.tup [a, b, p, c]) = false := by
          cases p <;> simp [codeB, c1]
        simp [this]
    · have hl' : ¬ (ds.length : Int) = 4 := by omega
      simp [b_rules_so, hl']
      rw [ltr_eq]
      have : codeB (.tup ds) = false := by
        unfold codeB
        split
        · rename_i e; cases e; simp at hl
        · rfl
      simp [this]
  | _ =>
    simp [b_rules_so, fl_isB h]
    rw [ltr_eq]
    simp [codeB]
theorem need_rule_ok {n k : Nat} {g : GH} {d : D} (h : flD k d = true) (hk : k ≤ 15) (hb : codeB d = true) : run (n+3) .need_rule [d] g = .ok .non g := by
  apply eq_of_wp
  show wp (runB (b_need_rule (run (n+2))) 1 _ g) _ _
  simp [b_need_rule, rules_eq h hk, hb]
  rw [ltr_eq]
  simp
theorem need_rule_er {n k : Nat} {g : GH} {d : D} (h : flD k d = true) (hk : k ≤ 15) (hb : codeB d = false) : run (n+3) .need_rule [d] g = .er (.own 0) g := by
  apply er_of_wp
  show wp (runB (b_need_rule (run (n+2))) 1 _ g) _ _
  simp [b_need_rule, rules_eq h hk, hb]
  rw [ltr_eq]
  simp

abbrev spS : Str := " "
def labs : List Str := ["changes", "windows", "knocks"]
def nAt (ps : List Lb) (k : Nat) : Option Int := match ps[k]? with
  | some p => numB p.f
  | none => none
def ruleP (ps : List Lb) : D := .tup [optD (nAt ps 0), optD (nAt ps 1), .tup ((ps.drop 3).map fun p => optD (numB p.f)), optD (nAt ps 2)]
def okB (ps : List Lb) : Bool := decide (3 ≤ ps.length) && (decide ((ps.map Lb.l).take 3 = labs) && ((ps.drop 3).all (fun p => decide (p.l = "pause")) && codeB (ruleP ps)))
def readP (ps : List Lb) : Option D := if okB ps then some (ruleP ps) else none
def readW (ws : List Str) : Option D := match toPairs ws with
  | some ps => readP ps
  | none => none
def readT (t : Str) : Option D := readW (Txt.split t spS)
theorem split_len (s y : Str) : (Txt.split s y).length ≤ s.length + 2 := by
  unfold Txt.split
  split
  · simp
  · split
    · simp
    · have := PySem.StrLaws.occ_length_le s y 0 s.length (s.length + 1)
      unfold Builtin.Str.partsBetween
      simp
      omega
theorem cut_to (ds : List D) (n : Nat) : cutD ds none (some (n : Int)) = ds.take n := by
  unfold cutD
  rw [HT.sIx_nat, HT.sIx_none]
  simp [← List.take_eq_take_min]
theorem cut_from (ds : List D) (n : Nat) : cutD ds (some (n : Int)) none = ds.drop n := by
  unfold cutD
  rw [HT.sIx_nat, HT.sIx_none]
  rcases Nat.le_total n ds.length with h | h
  · rw [Nat.min_eq_left h]
    exact List.take_of_length_le (by simp)
  · rw [Nat.min_eq_right h, List.drop_of_length_le h]
    simp
theorem strs_fl {k : Nat} {ws : List Str} (hk : 1 ≤ k) (h : ∀ w ∈ ws, PyData.strOk w = true) : (ws.map D.str).all (flD k) = true := by
  rw [List.all_eq_true]
  intro d hd
  obtain ⟨w, hw, rfl⟩ := List.mem_map.mp hd
  exact flD_up 1 k _ hk (h w hw)
theorem pickN_mem {α : Type} {xs : List α} {is : List Nat} {x : α} (h : x ∈ pickN xs is) : x ∈ xs := by
  unfold pickN at h
  rw [List.mem_filterMap] at h
  obtain ⟨i, _, e⟩ := h
  exact List.mem_of_getElem? e
theorem pickN_len {α : Type} (xs : List α) (is : List Nat) : (pickN xs is).length ≤ is.length := List.length_filterMap_le _ _
theorem ix2_len (lo : Option Int) (n : Nat) : (ix2 lo n).length ≤ n + 2 := by
  unfold ix2 sliceRange
  rw [List.length_map, List.length_range]
  have e2 : (sliceBounds lo none (some 2) n).2.2 = 2 := rfl
  have e1 : (sliceBounds lo none (some 2) n).2.1 = (n : Int) := rfl
  rw [e1, e2]
  have e0 : 0 ≤ (sliceBounds lo none (some 2) n).1 := by
    unfold sliceBounds
    cases lo with
    | none => simp
    | some i =>
      simp only [Option.getD_some, show ((2 : Int) > 0) = True by simp, if_true]
      omega
  simp only [show ((2 : Int) > 0) = True by simp, if_true]
  split <;> omega
theorem strs_inj {a b : List Str} : (a.map D.str = b.map D.str) ↔ a = b := List.map_inj_right fun a b h => D.str.inj h
theorem strs_nrm (a : List Str) : (a.map D.str).map nrm = a.map D.str := by
  rw [List.map_map]
  exact List.map_congr_left fun x _ => by simp
theorem optD_fl (o : Option Int) (k : Nat) : flD (k + 1) (optD o) = true := by cases o <;> rfl
theorem ruleP_fl (ps : List Lb) : flD 3 (ruleP ps) = true := by
  have h : ((ps.drop 3).map fun p => optD (numB p.f)).all (flD 1) = true := by
    rw [List.all_eq_true]
    intro d hd
    obtain ⟨p, _, rfl⟩ := List.mem_map.mp hd
    exact optD_fl _ 0
  have h1 := fun o => optD_fl o 1
  simp only [ruleP, flD_tup, List.all_cons, List.all_nil, h1, h, Bool.and_self]
theorem labs_ok : ∀ w ∈ labs, PyData.strOk w = true := by decide +kernel
theorem pause_ok : PyData.strOk ("pause" : Str) = true := by decide +kernel
theorem rule_in_eq {n : Nat} {g : GH} {t : Str} (ht : PyData.strOk t = true) (hl : t.length ≤ 600) :
    wp (run (n+3) .rule_in [.str t] g) (fun x g' => (∃ d, readT t = some d ∧ x = d) ∧ g' = g) (fun e g' => readT t = none ∧ e = .own 8 ∧ g' = g) := by
  rw [r_rule_in]
  have parts := split_parts (y := spS) ht
  have plen := split_len t spS
  have e16 : t.length ≤ 16777214 := by omega
  have hsp : (spS.length == 0) = false := by decide +kernel
  have hrt : readT t = readW (Txt.split t spS) := rfl
  simp [b_rule_in]
  rw [ltr_eq, wps_sNil]
  dsimp only
  rw [ltr_eq]
  simp
  refine ⟨⟨by decide +kernel, e16⟩, ?_⟩
  rw [ltr_eq]
  rw [hrt]
  generalize Txt.split t spS = ws at parts plen
  have wl : ∀ lo, (pickN (ws.map D.str) (ix2 lo ws.length)).length ≤ 16777216 := fun lo => by
    have h1 := pickN_len (ws.map D.str) (ix2 lo ws.length)
    have h2 := ix2_len lo ws.length
    omega
  have fl0 : ∀ lo, (pickN (ws.map D.str) (ix2 lo ws.length)).all (flD 1) = true := fun lo => by
    rw [List.all_eq_true]
    intro d hd
    obtain ⟨w, hw, rfl⟩ := List.mem_map.mp (pickN_mem hd)
    exact parts w hw |>.1
  have c3 : ∀ ds : List D, cutD ds none (some 3) = ds.take 3 := fun ds => cut_to ds 3
  have flt : flD 16 (.rol ((pickN (ws.map D.str) (ix2 none ws.length)).take 3)) = true := by
    rw [flD_rol, List.all_eq_true]
    intro d hd
    exact flD_up 1 15 d (by omega) (List.all_eq_true.mp (fl0 none) d (List.mem_of_mem_take hd))
  have flb : flD 16 (.rol (labs.map D.str)) = true := by
    rw [flD_rol]
    exact strs_fl (by omega) labs_ok
  have el : D.rol [D.str "changes", D.str "windows", D.str "knocks"] = .rol (labs.map D.str) := rfl
  simp [wl]
  rw [c3, el, ne_fl flt flb]
  cases hp : toPairs ws with
  | none =>
    have hodd := toPairs_none ws hp
    have h1 : (ws.length : Int) % 2 = 1 := by omega
    have hr : readW ws = none := by unfold readW; rw [hp]
    cases decide (nrm (.rol ((pickN (ws.map D.str) (ix2 none ws.length)).take 3)) = nrm (.rol (labs.map D.str))) with
    | true =>
      simp [h1]
      rw [ltr_eq]
      simp [hr]
    | false =>
      simp
      rw [ltr_eq]
      simp [hr]
  | some ps =>
    have hws := toPairs_some ws ps hp
    have hlen : ws.length = 2 * ps.length := by rw [hws, flatP_len]
    have h1 : ¬ (ws.length : Int) % 2 = 1 := by omega
    have hr : readW ws = readP ps := by unfold readW; rw [hp]
    have pl : pickN (ws.map D.str) (ix2 none ws.length) = (ps.map Lb.l).map D.str := by
      rw [hlen, ix_0, hws, pick_l (d := 0) (m := ps.length) (by omega), List.drop_zero, List.map_map]
      rfl
    have okl : ∀ w ∈ ps.map Lb.l, PyData.strOk w = true ∧ w.length ≤ t.length := fun w hw => by
      apply parts
      rw [hws]
      obtain ⟨p, hp, rfl⟩ := List.mem_map.mp hw
      obtain ⟨k, hk⟩ := List.getElem?_of_mem hp
      have := flatP_l ps k
      rw [hk] at this
      exact List.mem_of_getElem? this
    have okf : ∀ w ∈ ps.map Lb.f, PyData.strOk w = true ∧ w.length ≤ t.length := fun w hw => by
      apply parts
      rw [hws]
      obtain ⟨p, hp, rfl⟩ := List.mem_map.mp hw
      obtain ⟨k, hk⟩ := List.getElem?_of_mem hp
      have := flatP_f ps k
      rw [hk] at this
      exact List.mem_of_getElem? this
    have et : decide (nrm (.rol ((pickN (ws.map D.str) (ix2 none ws.length)).take 3)) = nrm (.rol (labs.map D.str))) = decide ((ps.map Lb.l).take 3 = labs) := by
      rw [decide_eq_decide, pl, ← List.map_take, nrm_rol, nrm_rol, strs_nrm, strs_nrm, D.rol.injEq, strs_inj]
    rw [et]
    by_cases c1 : (ps.map Lb.l).take 3 = labs
    · have h3 : 3 ≤ ps.length := by
        have := congrArg List.length c1
        simp [labs] at this
        omega
      simp [c1, h1]
      rw [ltr_eq, wps_sNil]
      dsimp only
      rw [ltr_eq]
      have pf : pickN (ws.map D.str) (ix2 (some 1) ws.length) = (ps.map Lb.f).map D.str := by
        rw [hlen, ix_1 _ (by omega), hws, pick_f rfl, List.map_map]
        rfl
      have p6 : pickN (ws.map D.str) (ix2 (some 6) ws.length) = ((ps.drop 3).map Lb.l).map D.str := by
        rw [hlen, ix_6 _ h3, hws, pick_l (d := 3) (m := ps.length - 3) (by omega), List.map_map]
        rfl
      have hpl : ps.length ≤ 16777215 := by omega
      simp [wl]
      rw [pf]
      refine ⟨by simp; omega, comp_mapT (enc := D.str) (fun p : Lb => optD (numB p.f)) (fun w => (⟨w, w⟩ : Lb)) (ps.map Lb.f) (fun w hw => ⟨_, rfl, ?_⟩) ?_⟩
      · have hw2 := okf w hw
        simp [wipeR, number_in_eq (n := n + 1) hw2.1 (by omega)]
      · have ens : List.map (fun p : Lb => optD (numB p.f)) (List.map (fun w => (⟨w, w⟩ : Lb)) (List.map Lb.f ps)) = ps.map fun p => optD (numB p.f) := by simp
        rw [ens]
        have at0 : ∀ k : Nat, k < 3 → atI (ps.map fun p => optD (numB p.f)) (k : Int) = some (optD (nAt ps k)) := fun k hk => by
          have hk2 : k < ps.length := by omega
          rw [atI_nat (n := k) rfl (by simpa using hk2)]
          simp [nAt, hk2]
        have a0 := at0 0 (by omega)
        have a1 := at0 1 (by omega)
        have a2 := at0 2 (by omega)
        have c4 : cutD (ps.map fun p => optD (numB p.f)) (some 3) none = (ps.drop 3).map fun p => optD (numB p.f) := by
          rw [show (some (3 : Int)) = some ((3 : Nat) : Int) from rfl, cut_from, List.map_drop]
        rw [ltr_eq]
        simp at a0 a1 a2
        simp [a0, a1, a2, c4]
        rw [ltr_eq]
        have eR : D.tup [optD (nAt ps 0), optD (nAt ps 1), .tup (List.drop 3 (List.map (fun p => optD (numB p.f)) ps)), optD (nAt ps 2)] = ruleP ps := by simp [ruleP, List.map_drop]
        simp [wl, -Bool.exists_bool]
        rw [eR, p6]
        have fld : ∀ w ∈ (((ps.drop 3).map Lb.l).filter fun w : Str => !decide (w = "pause")), PyData.strOk w = true := by
          intro w hw
          have := (List.mem_filter.mp hw).1
          obtain ⟨p, hp, rfl⟩ := List.mem_map.mp this
          exact (okl _ (List.mem_map_of_mem (List.mem_of_mem_drop hp))).1
        refine ⟨by simp; omega, comp_map (enc := D.str) (fun w : Str => !decide (w = "pause")) D.str ((ps.drop 3).map Lb.l) (fun w hw => ⟨_, rfl, ?_⟩) ?_⟩
        · have hw2 : PyData.strOk w = true := by
            obtain ⟨p, hp, rfl⟩ := List.mem_map.mp hw
            exact (okl _ (List.mem_map_of_mem (List.mem_of_mem_drop hp))).1
          simp [wipeR, -Bool.exists_bool]
          rw [ne_strs hw2 pause_ok]
          exact ⟨_, rfl, rfl, rfl⟩
        · have flf : flD 16 (.rol ((((ps.drop 3).map Lb.l).filter fun w : Str => !decide (w = "pause")).map D.str)) = true := by
            rw [flD_rol]
            exact strs_fl (by omega) fld
          have e0 : D.rol [] = .rol (([] : List Str).map D.str) := rfl
          rw [e0, ne_fl flf rfl]
          have et2 : decide (nrm (.rol ((((ps.drop 3).map Lb.l).filter fun w : Str => !decide (w = "pause")).map D.str)) = nrm (.rol (([] : List Str).map D.str))) = (ps.drop 3).all fun p => decide (p.l = "pause") := by
            rw [Bool.eq_iff_iff, decide_eq_true_eq, nrm_rol, nrm_rol, strs_nrm, strs_nrm, D.rol.injEq, strs_inj, List.filter_eq_nil_iff, List.all_eq_true]
            constructor
            · intro h p hp
              have := h p.l (List.mem_map_of_mem hp)
              simpa using this
            · intro h w hw
              obtain ⟨p, hp, rfl⟩ := List.mem_map.mp hw
              have := h p hp
              simpa using this
          rw [et2]
          have hR := rules_eq (n := n) (g := g) (ruleP_fl ps) (by omega)
          cases c5 : (ps.drop 3).all fun p => decide (p.l = "pause") with
          | false =>
            have hr2 : readP ps = none := by
              unfold readP okB
              rw [if_neg (by rw [c5]; simp)]
            simp
            rw [ltr_eq]
            simp [hr, hr2]
          | true =>
            cases c6 : codeB (ruleP ps) with
            | true =>
              have hr2 : readP ps = some (ruleP ps) := by
                unfold readP okB
                rw [if_pos (by simp [c5, c6, c1, h3])]
              simp [hR, c6]
              rw [ltr_eq, wps_sNil]
              dsimp only
              rw [ltr_eq]
              simp [hr, hr2]
            | false =>
              have hr2 : readP ps = none := by
                unfold readP okB
                rw [if_neg (by rw [c6]; simp)]
              simp [hR, c6]
              rw [ltr_eq]
              simp [hr, hr2]
    · have hr2 : readP ps = none := by
        unfold readP okB
        rw [if_neg (by simp [c1])]
      simp [c1]
      rw [ltr_eq]
      simp [hr, hr2]

def labK (k : Nat) : Str := if k = 0 then "changes" else if k = 1 then "windows" else if k = 2 then "knocks" else "pause"
/-- what the law has read so far -/
structure Rd (ps : List Lb) (k : Nat) (ns : List Int) : Prop where
  len : ns.length = k
  lab : ∀ (i : Nat) (p : Lb), i < k → ps[i]? = some p → p.l = labK i
  num : ∀ (i : Nat) (p : Lb), i < k → ps[i]? = some p → numB p.f = ns[i]?
theorem okB_lab {ps : List Lb} (h : okB ps = true) : ∀ (i : Nat) (p : Lb), ps[i]? = some p → p.l = labK i := by
  simp only [okB, Bool.and_eq_true, decide_eq_true_eq, List.all_eq_true] at h
  obtain ⟨h3, h1, h2, _⟩ := h
  intro i p e
  by_cases hi : i < 3
  · have e2 : ((ps.map Lb.l).take 3)[i]? = some p.l := by
      rw [List.getElem?_take_of_lt hi, List.getElem?_map, e]
      rfl
    rw [h1] at e2
    have hi' : i = 0 ∨ i = 1 ∨ i = 2 := by omega
    rcases hi' with rfl | rfl | rfl
    · simp [labs] at e2; rw [← e2]; rfl
    · simp [labs] at e2; rw [← e2]; rfl
    · simp [labs] at e2; rw [← e2]; rfl
  · have e3 : (ps.drop 3)[i - 3]? = some p := by
      rw [List.getElem?_drop]
      have : 3 + (i - 3) = i := by omega
      rw [this, e]
    have := h2 p (List.mem_of_getElem? e3)
    rw [this]
    unfold labK
    rw [if_neg (by omega), if_neg (by omega), if_neg (by omega)]
theorem codeB_num {ps : List Lb} (h3 : 3 ≤ ps.length) (h : codeB (ruleP ps) = true) : ∀ (i : Nat) (p : Lb), ps[i]? = some p → ∃ n, numB p.f = some n := by
  intro i p e
  unfold ruleP codeB at h
  simp only [Bool.and_eq_true, decide_eq_true_eq] at h
  obtain ⟨h0, h1, hl, h2, hr⟩ := h
  have opt : ∀ (o : Option Int) lo hi, isI (optD o) lo hi = true → ∃ n, o = some n := fun o lo hi h => by
    cases o with
    | none => cases h
    | some n => exact ⟨n, rfl⟩
  have nat : nAt ps i = numB p.f := by unfold nAt; rw [e]
  by_cases hi : i < 3
  · have hi' : i = 0 ∨ i = 1 ∨ i = 2 := by omega
    rw [← nat]
    rcases hi' with rfl | rfl | rfl
    · exact opt _ _ _ h0
    · exact opt _ _ _ h1
    · exact opt _ _ _ h2
  · have e3 : (ps.drop 3)[i - 3]? = some p := by
      rw [List.getElem?_drop]
      have : 3 + (i - 3) = i := by omega
      rw [this, e]
    have mem : p ∈ ps.drop 3 := List.mem_of_getElem? e3
    have key : ∀ (qs : List Lb) (a : Int), risB a (qs.map fun p : Lb => optD (numB p.f)) = true → ∀ p ∈ qs, ∃ n, numB p.f = some n := fun qs => by
      induction qs with
      | nil => intro a _ p hp; simp at hp
      | cons q qs ih =>
        intro a h p hp
        rw [List.map_cons] at h
        cases hq : numB q.f with
        | none => rw [hq] at h; simp [risB, optD] at h
        | some n =>
          rw [hq] at h
          simp [risB, optD] at h
          rcases List.mem_cons.mp hp with rfl | hp
          · exact ⟨n, hq⟩
          · exact ih n h.2.2 p hp
    exact key _ 0 hr p mem
theorem all_num {ps : List Lb} {ns : List Int} (R : Rd ps ps.length ns) : (ps.map fun p => optD (numB p.f)) = ns.map D.int := by
  apply List.ext_getElem?
  intro i
  rw [List.getElem?_map, List.getElem?_map]
  cases e : ps[i]? with
  | none =>
    have : ns[i]? = none := by
      have := List.getElem?_eq_none_iff.mp e
      rw [List.getElem?_eq_none_iff, R.len]
      exact this
    rw [this]
    rfl
  | some p =>
    have hi : i < ps.length := (List.getElem?_eq_some_iff.mp e).1
    have h := R.num i p hi e
    have : ns[i]? = some (ns[i]'(by rw [R.len]; exact hi)) := by simp [R.len, hi]
    rw [this] at h ⊢
    simp [h, optD]
theorem okB_of {ps : List Lb} {ns : List Int} (R : Rd ps ps.length ns) (h3 : 3 ≤ ps.length) : okB ps = codeB (ruleP ps) := by
  unfold okB
  have e1 : (ps.map Lb.l).take 3 = labs := by
    match ps, h3, R with
    | p0 :: p1 :: p2 :: rest, _, R =>
      have a0 := R.lab 0 p0 (by simp) rfl
      have a1 := R.lab 1 p1 (by simp) rfl
      have a2 := R.lab 2 p2 (by simp) rfl
      simp only [List.map_cons, List.take_succ_cons, List.take_zero, a0, a1, a2]
      rfl
  have e2 : ((ps.drop 3).all fun p => decide (p.l = "pause")) = true := by
    rw [List.all_eq_true]
    intro p hp
    obtain ⟨k, hk⟩ := List.getElem?_of_mem hp
    rw [List.getElem?_drop] at hk
    have := R.lab (3 + k) p (List.getElem?_eq_some_iff.mp hk).1 hk
    rw [decide_eq_true_eq, this]
    unfold labK
    rw [if_neg (by omega), if_neg (by omega), if_neg (by omega)]
  rw [e2]
  simp [h3, e1]
theorem strip_dg {w : Str} (h1 : 1 ≤ w.length) (h2 : w.length ≤ 2) : decide (Txt.stripChars w dgS = ("" : Str)) = allDg w := by
  unfold Txt.stripChars
  rw [PyProof.Rows.stripBy_eq]
  have hg : ∀ c, dgS.cps.contains c = isDg c := fun c => by
    unfold isDg
    rw [Bool.eq_iff_iff]
    simp
  have hgf : dgS.cps.contains = isDg := funext hg
  rw [hgf]
  rcases len_cases h1 h2 with ⟨a, rfl⟩ | ⟨a, b, rfl⟩
  · cases ha : isDg a with
    | true => simp [stripLo, stripHi, allDg, ha, Builtin.Str.strSub]; rfl
    | false =>
      simp [stripLo, stripHi, allDg, ha, Builtin.Str.strSub]
      exact fun h => absurd (congrArg (fun s : Str => s.cps.size) h) (by show ¬ (1 = 0); decide)
  · cases ha : isDg a <;> cases hb : isDg b <;> simp [stripLo, stripHi, allDg, ha, hb, Builtin.Str.strSub]
    · exact fun h => absurd (congrArg (fun s : Str => s.cps.size) h) (by show ¬ (2 = 0); decide)
    · exact fun h => absurd (congrArg (fun s : Str => s.cps.size) h) (by show ¬ (1 = 0); decide)
    · exact fun h => absurd (congrArg (fun s : Str => s.cps.size) h) (by show ¬ (1 = 0); decide)
    · rfl

/-- the drawing loop: t steps are left -/
def sipI (g : GH) (r : Nat) (m a : Int) (t : Nat) (ρ : Rho) (g1 : GH) : Prop := ∃ (u wd c : Int), ρ = [some (.ref r), some (.int m), some (.int u), some (.int wd)] ∧ 0 ≤ u ∧ u < wd ∧ wd ≤ 8192 * 10 ^ 300 ∧ t < 200 ∧ wd = 8192 ^ (199 - t) ∧
  g1[r]? = some (.lst [.int a, .int c]) ∧ 0 ≤ c ∧ c ≤ 2147482577 ∧ Kp r g g1 ∧ g1.length = g.length
theorem sip_ok {n r : Nat} {m : Int} {g : GH} (F : Fk r g) (h1 : 0 < m) (h2 : m ≤ 10^300) :
  wp (run (n+1) .law_sip [.ref r, .int m] g) (fun d g' => ∃ k, d = .int k ∧ 0 ≤ k ∧ k < m ∧ Fk r g' ∧ Kp r g g' ∧ g'.length = g.length) F0 := by
  obtain ⟨a, b, e, ha, hb, hb2⟩ := F
  have hr : r < g.length := (List.getElem?_eq_some_iff.mp e).1
  have hm : m.natAbs.log2 < 4000 := lg_big (by have := big_ge; omega) (by have := big_ge; omega)
  have hm9 : m.natAbs.log2 < 9000 := by omega
  show wp (runB (b_law_sip (run n)) 4 _ g) _ _
  rcases Int.lt_or_le 0 a with h | h
  · simp [b_law_sip, ix_lst (lst_ref e), h]
    rw [ltr_eq]
    simp [ix_lst (lst_ref e), h1]
    rw [ltr_eq]
    simp [ix_lst (lst_ref e), h1, opSet, e, ixN, hm9]
    rw [ltr_eq]
    simp
    exact ⟨Int.emod_nonneg _ (by omega), Int.emod_lt_of_pos _ h1, ⟨a / m, b, by simp [hr], Int.ediv_nonneg ha (by omega), hb, hb2⟩, Kp.set _⟩
  · have h : ¬ 0 < a := by omega
    simp [b_law_sip, ix_lst (lst_ref e), h]
    rw [ltr_eq]
    simp
    rw [ltr_eq]
    simp [setR]
    rw [ltr_eq]
    simp
    refine wps_while (sipI g r m a) ?_ 199 1000000 _ _ (by omega) ⟨0, 1, b, rfl, by omega, by omega, by decide +kernel, by omega, by simp, e, hb, hb2, Kp.refl _ _, rfl⟩
    rintro t ρ g1 ⟨u, wd, c, rfl, hu, huw, hwb, ht, hw, e1, hc, hc2, K1, L1⟩
    have hwB : wd ≤ Big := Int.le_trans hwb (by decide +kernel)
    by_cases hs : wd < m ∨ wd = 1
    · have go : ∃ m', t = m' + 1 := by
        cases t with
        | zero =>
          exfalso
          have : (10 : Int) ^ 300 < 8192 ^ 199 := by decide +kernel
          simp only [Nat.sub_zero] at hw
          have z : (1 : Int) < 10 ^ 300 := by decide +kernel
          omega
        | succ t => exact ⟨t, rfl⟩
      obtain ⟨t, rfl⟩ := go
      have hr1 : r < g1.length := by omega
      have hB : (2147482577:Int) ≤ Big := by decide +kernel
      have hwm : wd ≤ 10 ^ 300 := by
        have z : (1 : Int) < 10 ^ 300 := by decide +kernel
        omega
      have step : wps (b_law_sip_1 (run n) [some (.ref r), some (.int m), some (.int u), some (.int wd)] g1) ⟨sipI g r m a t, fun d g' => ∃ k, d = .int k ∧ 0 ≤ k ∧ k < m ∧ Fk r g' ∧ Kp r g g' ∧ g'.length = g.length, Ltr (sRet (eBin opMod (eBi fInt (aCons (eVar 2) aNil)) (eVar 1))) { nx := fun x g => False, rt := fun d g' => ∃ k, d = .int k ∧ 0 ≤ k ∧ k < m ∧ Fk r g' ∧ Kp r g g' ∧ g'.length = g.length, bk := fun x g => False, ct := fun x g => False, er := F0 }, sipI g r m a t, F0⟩ := by
        have l1 : c.natAbs.log2 + Nat.log2 16381 < 1000000 := lg2_big (j := 16381) ⟨by omega, by omega⟩ (by decide +kernel)
        have l2 : u.natAbs.log2 + Nat.log2 8192 < 1000000 := lg2_big (j := 8192) ⟨by omega, by omega⟩ (by decide +kernel)
        have l3 : wd.natAbs.log2 + Nat.log2 8192 < 1000000 := lg2_big (j := 8192) ⟨by omega, by omega⟩ (by decide +kernel)
        have p1 := Int.emod_nonneg (c * 16381 + 157) (b := 2147482577) (by omega)
        have p2 := Int.emod_lt_of_pos (c * 16381 + 157) (b := 2147482577) (by omega)
        generalize hc' : (c * 16381 + 157) % 2147482577 = c' at p1 p2
        simp [b_law_sip_1, ix_lst (lst_ref e1), opSet, e1, ixN, l1, hc']
        rw [ltr_eq]
        have e2 : (g1.set r (.lst [.int a, .int c']))[r]? = some (.lst [.int a, .int c']) := by simp [hr1]
        simp [ix_lst (lst_ref e2), l2, show Nat.log2 65809 < 9000 by decide +kernel]
        rw [ltr_eq]
        simp [l3]
        have q1 := Int.emod_nonneg (c' / 65809) (b := 8192) (by omega)
        have q2 := Int.emod_lt_of_pos (c' / 65809) (b := 8192) (by omega)
        refine ⟨_, _, c', rfl, by omega, by omega, by omega, by omega, ?_, e2, by omega, by omega, K1.trans (Kp.set _), by simp [L1]⟩
        have z : 199 - t = (199 - (t + 1)) + 1 := by omega
        rw [z, Int.pow_succ, ← hw]
      rcases Decidable.em (wd < m) with h3 | h3
      · simp [h3]
        exact step
      · simp [h3, show wd = 1 by omega]
        rw [show wd = 1 by omega] at step
        rcases Decidable.em (m ≤ 1) with z | z
        · exact .inl ⟨z, step⟩
        · exact .inr ⟨by omega, step⟩
    · have h3 : ¬ wd < m := fun z => hs (.inl z)
      have h4 : ¬ wd = 1 := fun z => hs (.inr z)
      simp [h3, h4]
      rw [ltr_eq]
      simp [h1]
      exact ⟨Int.emod_nonneg _ (by omega), Int.emod_lt_of_pos _ h1, ⟨a, c, e1, ha, hc, hc2⟩, K1, L1⟩

theorem some_tup {n r : Nat} {xs : List D} {g : GH} (F : Fk r g) (h0 : xs ≠ []) (hl : xs.length < 1000000) :
    wp (run (n+2) .law_some [.ref r, .tup xs] g) (fun d g' => d ∈ xs ∧ Fk r g' ∧ Kp r g g' ∧ g'.length = g.length) F0 := by
  show wp (runB (b_law_some (run (n+1))) 2 _ g) _ _
  have hp : 0 < xs.length := List.length_pos_iff.mpr h0
  simp [b_law_some]
  refine (sip_ok F (by omega) (by have : (1000000 : Int) < 10 ^ 300 := by decide +kernel
                                  omega)).use ?_
  rintro _ g' ⟨k, rfl, k0, k1, F', K, L⟩
  obtain ⟨x, e, hx⟩ := atI_mem (xs := xs) k0 k1
  simp [e]
  exact ⟨hx, F', K, L⟩
theorem some_rol {n r : Nat} {xs : List D} {g : GH} (F : Fk r g) (h0 : xs ≠ []) (hl : xs.length < 1000000) :
    wp (run (n+2) .law_some [.ref r, .rol xs] g) (fun d g' => d ∈ xs ∧ Fk r g' ∧ Kp r g g' ∧ g'.length = g.length) F0 := by
  show wp (runB (b_law_some (run (n+1))) 2 _ g) _ _
  have hp : 0 < xs.length := List.length_pos_iff.mpr h0
  simp [b_law_some]
  refine (sip_ok F (by omega) (by have : (1000000 : Int) < 10 ^ 300 := by decide +kernel
                                  omega)).use ?_
  rintro _ g' ⟨k, rfl, k0, k1, F', K, L⟩
  obtain ⟨x, e, hx⟩ := atI_mem (xs := xs) k0 k1
  simp [e]
  exact ⟨hx, F', K, L⟩

def pausesV : List (List Int) := [[], [], [1], [2], [3], [2, 3], [1, 4], [5, 12]]
/-- what the law's codes are -/
def CodeV (d : D) : Prop := ∃ (a b c : Int) (p : List Int), d = .tup [.int a, .int b, .tup (p.map D.int), .int c] ∧ (0 ≤ a ∧ a < 4) ∧ (0 ≤ b ∧ b < 3) ∧ (0 ≤ c ∧ c < 3) ∧ p ∈ pausesV
theorem lcode_ok {n r : Nat} {g : GH} (F : Fk r g) : wp (run (n+3) .law_code [.ref r] g) (fun d g' => CodeV d ∧ Fk r g' ∧ Kp r g g' ∧ g'.length = g.length) F0 := by
  show wp (runB (b_law_code (run (n+2))) 2 _ g) _ _
  have z300 : (1000 : Int) < 10 ^ 300 := by decide +kernel
  simp [b_law_code]
  refine (some_rol F (by simp) (by simp)).use ?_
  rintro d1 g1 ⟨hm, F1, K1, L1⟩
  have hm2 : d1 ∈ pausesV.map fun p => D.tup (p.map D.int) := hm
  obtain ⟨p, hp, rfl⟩ := List.mem_map.mp hm2
  rw [ltr_eq]
  simp
  refine (sip_ok F1 (by omega) (by omega)).use ?_
  rintro _ g2 ⟨a, rfl, a0, a1, F2, K2, L2⟩
  refine (sip_ok F2 (by omega) (by omega)).use ?_
  rintro _ g3 ⟨b, rfl, b0, b1, F3, K3, L3⟩
  refine (sip_ok F3 (by omega) (by omega)).use ?_
  rintro _ g4 ⟨c, rfl, c0, c1, F4, K4, L4⟩
  exact ⟨⟨a, b, c, p, rfl, ⟨a0, a1⟩, ⟨b0, b1⟩, ⟨c0, c1⟩, hp⟩, F4, (K1.trans K2).trans (K3.trans K4), by omega⟩

def codeD (a b c : Int) (p : List Int) : D := .tup [.int a, .int b, .tup (p.map D.int), .int c]
def wordsP (a b c : Int) (p : List Int) : List Str := ([("changes" : Str), numS a, "windows", numS b, "knocks", numS c] : List Str) ++ p.map fun s => ("pause " : Str) ++ numS s
def wordsF (a b c : Int) (p : List Int) : List Str := ([("changes" : Str), numS a, "windows", numS b, "knocks", numS c] : List Str) ++ p.flatMap fun s => [("pause" : Str), numS s]
def textP (a b c : Int) (p : List Int) : Str := Txt.join spS (wordsP a b c p)
def writeP (a b c : Int) (p : List Int) : Str := p.foldl (fun t s => t ++ (" pause " : Str) ++ numS s) (("changes " : Str) ++ numS a ++ (" windows " : Str) ++ numS b ++ (" knocks " : Str) ++ numS c)
theorem strsOf_map : ∀ ws : List Str, strsOf (ws.map D.str) = some ws
  | [] => rfl
  | w :: ws => by simp [strsOf, strsOf_map ws]
/-- whether a text writes a rule -/
def readsB (ws : List Str) (a b c : Int) (p : List Int) : Bool := match toPairs ws with
  | some ps => okB ps && (decide (nAt ps 0 = some a) && (decide (nAt ps 1 = some b) && (decide (nAt ps 2 = some c) && decide ((ps.drop 3).map (fun p => numB p.f) = p.map some))))
  | none => false
theorem readsB_T {ws : List Str} {a b c : Int} {p : List Int} (h : readsB ws a b c p = true) : readW ws = some (codeD a b c p) := by
  unfold readsB at h
  unfold readW
  cases e : toPairs ws with
  | none =>
    rw [e] at h
    cases h
  | some ps =>
    rw [e] at h
    simp only [Bool.and_eq_true, decide_eq_true_eq] at h
    obtain ⟨h0, h1, h2, h3, h4⟩ := h
    show readP ps = _
    unfold readP
    rw [if_pos h0]
    have e4 : ((ps.drop 3).map fun p => optD (numB p.f)) = p.map D.int := by
      have : ((ps.drop 3).map fun p => optD (numB p.f)) = ((ps.drop 3).map (fun p => numB p.f)).map optD := by rw [List.map_map]; rfl
      rw [this, h4, List.map_map]
      rfl
    rw [ruleP, h1, h2, h3, e4]
    rfl
/-- all codes of the law -/
def codesL : List (Nat × Nat × Nat × List Int) := (List.range 4).flatMap fun a => (List.range 3).flatMap fun b => (List.range 3).flatMap fun c => pausesV.map fun p => (a, b, c, p)
def codeOk (a b c : Int) (p : List Int) : Bool := decide (textP a b c p = writeP a b c p) && ((decide (Txt.join spS (wordsF a b c p) = writeP a b c p) && ((wordsF a b c p).all (fun w => !decide (32 ∈ w.cps.toList)) && readsB (wordsF a b c p) a b c p)) && (PyData.strOk (writeP a b c p) && (decide ((writeP a b c p).length ≤ 100) && (decide (((wordsP a b c p).map (·.length)).sum + (wordsP a b c p).length * spS.length ≤ 1000) && (codeB (codeD a b c p) && p.all (fun s => decide (0 ≤ s) && decide (s ≤ 12)))))))
def codeX (x : Nat × Nat × Nat × List Int) : Bool := codeOk x.1 x.2.1 x.2.2.1 x.2.2.2
theorem codes_0 : ((codesL.drop 0).take 36).all codeX = true := by decide +kernel
theorem codes_36 : ((codesL.drop 36).take 36).all codeX = true := by decide +kernel
theorem codes_72 : ((codesL.drop 72).take 36).all codeX = true := by decide +kernel
theorem codes_108 : ((codesL.drop 108).take 36).all codeX = true := by decide +kernel
theorem codes_144 : ((codesL.drop 144).take 36).all codeX = true := by decide +kernel
theorem codes_180 : ((codesL.drop 180).take 36).all codeX = true := by decide +kernel
theorem codes_216 : ((codesL.drop 216).take 36).all codeX = true := by decide +kernel
theorem codes_252 : ((codesL.drop 252).take 36).all codeX = true := by decide +kernel
theorem all_cut {α : Type} {f : α → Bool} {l : List α} {k m : Nat} (h1 : ((l.drop k).take m).all f = true) (h2 : (l.drop (k + m)).all f = true) : (l.drop k).all f = true := by
  rw [List.all_eq_true] at *
  intro x hx
  rw [← List.take_append_drop m (l.drop k)] at hx
  rcases List.mem_append.mp hx with h | h
  · exact h1 x h
  · rw [List.drop_drop] at h
    exact h2 x h
theorem codes_ok : codesL.all codeX = true := by
  have e : (codesL.drop 288).all codeX = true := by decide +kernel
  have := all_cut codes_0 (all_cut codes_36 (all_cut codes_72 (all_cut codes_108 (all_cut codes_144 (all_cut codes_180 (all_cut codes_216 (all_cut codes_252 e)))))))
  rwa [List.drop_zero] at this
theorem code_ok {a b c : Int} {p : List Int} (ha : 0 ≤ a ∧ a < 4) (hb : 0 ≤ b ∧ b < 3) (hc : 0 ≤ c ∧ c < 3) (hp : p ∈ pausesV) : codeOk a b c p = true := by
  obtain ⟨a, rfl⟩ := Int.eq_ofNat_of_zero_le ha.1
  obtain ⟨b, rfl⟩ := Int.eq_ofNat_of_zero_le hb.1
  obtain ⟨c, rfl⟩ := Int.eq_ofNat_of_zero_le hc.1
  have := List.all_eq_true.mp codes_ok (a, b, c, p) (by
    simp only [codesL, List.mem_flatMap, List.mem_range, List.mem_map]
    exact ⟨a, by omega, b, by omega, c, by omega, p, hp, rfl⟩)
  exact this
theorem code_read {a b c : Int} {p : List Int} (h : codeOk a b c p = true) : readT (writeP a b c p) = some (codeD a b c p) := by
  simp only [codeOk, Bool.and_eq_true, decide_eq_true_eq, List.all_eq_true] at h
  obtain ⟨_, ⟨h1, h2, h3⟩, _⟩ := h
  unfold readT
  have e := TL.split_join (y := spS) (s := 32) (S := []) rfl (by decide +kernel) (parts := wordsF a b c p) (by simp [wordsF]) (fun w hw => by
    have := h2 w hw
    simpa using this)
  rw [← h1, e]
  exact readsB_T h3

theorem numS_len {n : Int} (h0 : 0 ≤ n) (h1 : n ≤ 99) : (numS n).length ≤ 2 := by
  obtain ⟨k, rfl⟩ := Int.eq_ofNat_of_zero_le h0
  have : ∀ n : Nat, n < 100 → (numS (n : Int)).length ≤ 2 := by decide +kernel
  exact this k (by omega)
theorem len_app (a b : Str) : (a ++ b).length = a.length + b.length := by
  show (a.cps ++ b.cps).size = _
  exact Array.size_append
structure CodeP (a b c : Int) (p : List Int) : Prop where
  ha : 0 ≤ a ∧ a < 4
  hb : 0 ≤ b ∧ b < 3
  hc : 0 ≤ c ∧ c < 3
  txt : textP a b c p = writeP a b c p
  rd : readT (writeP a b c p) = some (codeD a b c p)
  ok : PyData.strOk (writeP a b c p) = true
  len : (writeP a b c p).length ≤ 100
  jn : ((wordsP a b c p).map (·.length)).sum + (wordsP a b c p).length * spS.length ≤ 1000
  cb : codeB (codeD a b c p) = true
  ps : ∀ s ∈ p, 0 ≤ s ∧ s ≤ 12
  pl : p.length ≤ 2
theorem codeP_ok {a b c : Int} {p : List Int} (ha : 0 ≤ a ∧ a < 4) (hb : 0 ≤ b ∧ b < 3) (hc : 0 ≤ c ∧ c < 3) (pl : p.length ≤ 2) (h : codeOk a b c p = true) : CodeP a b c p := by
  have h9 := code_read h
  simp only [codeOk, Bool.and_eq_true, decide_eq_true_eq, List.all_eq_true] at h
  obtain ⟨h1, _, h2, h3, h4, h5, h6⟩ := h
  exact ⟨ha, hb, hc, h1, h9, h2, h3, h4, h5, h6, pl⟩
theorem codeP_of {a b c : Int} {p : List Int} (ha : 0 ≤ a ∧ a < 4) (hb : 0 ≤ b ∧ b < 3) (hc : 0 ≤ c ∧ c < 3) (hp : p ∈ pausesV) : CodeP a b c p := by
  have pl : ∀ p ∈ pausesV, p.length ≤ 2 := by decide +kernel
  exact codeP_ok ha hb hc (pl p hp) (code_ok ha hb hc hp)
theorem text_of_eq {n : Nat} {g : GH} {a b c : Int} {p : List Int} (C : CodeP a b c p) : wp (run (n+1) .text_of [codeD a b c p] g) (fun x g' => x = .str (writeP a b c p) ∧ g' = g) F0 := by
  have ha := C.ha
  have hb := C.hb
  have hc := C.hc
  have pl := C.pl
  have jn := C.jn
  rw [r_text_of]
  simp [b_text_of, codeD, fStr_int (n := a) ha.1 (by omega), fStr_int (n := b) hb.1 (by omega), fStr_int (n := c) hc.1 (by omega)]
  rw [ltr_eq]
  simp
  refine ⟨by omega, comp_mapT (enc := D.int) D.str (fun s => ("pause " : Str) ++ numS s) p (fun s hs => ⟨_, rfl, ?_⟩) ?_⟩
  · have h := C.ps s hs
    have h2 := numS_len h.1 (by omega)
    have e : (Str.ofString "pause ").length = 6 := by decide +kernel
    simp [wipeR, fStr_int (n := s) h.1 (by omega)]
    first | omega | (have : ("pause " : Str).length = 6 := by decide +kernel
                     omega)
  · have ew : D.str (Str.ofString "changes") :: D.str (numS a) :: D.str (Str.ofString "windows") :: D.str (numS b) :: D.str (Str.ofString "knocks") :: D.str (numS c) :: (p.map fun s => ("pause " : Str) ++ numS s).map D.str = (wordsP a b c p).map D.str := rfl
    refine ⟨by simp; omega, wordsP a b c p, ?_, by simp only [spS] at jn; omega, C.txt, rfl⟩
    rw [ew, strsOf_map]
theorem rule_text_eq {n : Nat} {g : GH} {a b c : Int} {p : List Int} (C : CodeP a b c p) : run (n+4) .rule_text [codeD a b c p] g = .ok (.str (writeP a b c p)) g := by
  apply eq_of_wp
  rw [r_rule_text]
  have e2 : flD 3 (codeD a b c p) = true := by
    have h : (p.map D.int).all (flD 1) = true := by simp [List.all_eq_true, flD]
    simp only [codeD, flD_tup, List.all_cons, List.all_nil, h, Bool.and_self]
    simp [flD]
  simp [b_rule_text, need_rule_ok (n := n) e2 (by omega) C.cb]
  rw [ltr_eq]
  simp
  exact text_of_eq C
theorem law_writing_eq {n : Nat} {g : GH} {a b c : Int} {p : List Int} (C : CodeP a b c p) : wp (run (n+1) .law_writing [codeD a b c p] g) (fun x g' => x = .str (writeP a b c p) ∧ g' = g) F0 := by
  have ha := C.ha
  have hb := C.hb
  have hc := C.hc
  have pl := C.pl
  have la := numS_len ha.1 (by omega)
  have lb := numS_len hb.1 (by omega)
  have lc := numS_len hc.1 (by omega)
  have e1 : ("changes " : Str).length = 8 := by decide +kernel
  have e2 : (" windows " : Str).length = 9 := by decide +kernel
  have e3 : (" knocks " : Str).length = 8 := by decide +kernel
  have e4 : (" pause " : Str).length = 7 := by decide +kernel
  rw [r_law_writing]
  simp [b_law_writing, codeD, fStr_int (n := a) ha.1 (by omega), fStr_int (n := b) hb.1 (by omega), fStr_int (n := c) hc.1 (by omega), len_app, e1, e2, e3]
  refine ⟨by omega, by omega, by omega, ?_⟩
  rw [ltr_eq]
  simp [fStr_int (n := a) ha.1 (by omega), fStr_int (n := b) hb.1 (by omega), fStr_int (n := c) hc.1 (by omega), len_app, e1, e2, e3]
  refine ⟨by omega, by omega, ?_⟩
  rw [ltr_eq]
  simp
  refine wps_list p (fun done ρ g' => g' = g ∧ (writeP a b c done).length ≤ 60 + 10 * done.length ∧ ∃ o2, ρ = [some (codeD a b c p), some (.str (writeP a b c done)), o2]) ?_ ?_ ⟨rfl, ?_, _, rfl⟩
  · rintro done s rest ρ g' e ⟨rfl, hl, o2, rfl⟩
    have hs := C.ps s (by rw [e]; simp)
    have ls := numS_len hs.1 (by omega)
    have hd : done.length ≤ 2 := by
      have := congrArg List.length e
      simp at this
      omega
    have ew : writeP a b c (done ++ [s]) = writeP a b c done ++ (" pause " : Str) ++ numS s := by simp [writeP]
    rw [wps_stepOf]
    simp [b_law_writing_1, fStr_int (n := s) hs.1 (by omega), len_app, e4, ew]
    omega
  · rintro ρ g' ⟨rfl, hl, o2, rfl⟩
    dsimp only
    rw [ltr_eq]
    simp
  · simp [writeP, len_app, e1, e2, e3]
    omega

theorem Ex.set {g g1 : GH} {q : Nat} {o : GO} (h : Ex g g1) (hq : g.length ≤ q) : Ex g (g1.set q o) :=
  ⟨by simpa using h.1, fun i u e => by
    have := (List.getElem?_eq_some_iff.mp e).1
    rw [List.getElem?_set_ne (by omega)]
    exact h.2 i u e⟩

theorem labK_ok (k : Nat) : PyData.strOk (labK k) = true := by
  unfold labK
  split
  · decide +kernel
  · split
    · decide +kernel
    · split
      · decide +kernel
      · decide +kernel
theorem bad_lab {ps : List Lb} {k : Nat} {p : Lb} (e : ps[k]? = some p) (h : p.l ≠ labK k) : readP ps = none := by
  unfold readP
  rw [if_neg]
  intro z
  exact h (okB_lab z k p e)
theorem bad_num {ps : List Lb} {k : Nat} {p : Lb} (e : ps[k]? = some p) (h3 : 3 ≤ ps.length) (h : numB p.f = none) : readP ps = none := by
  unfold readP
  rw [if_neg]
  intro z
  simp only [okB, Bool.and_eq_true] at z
  obtain ⟨n, hn⟩ := codeB_num h3 z.2.2.2 k p e
  rw [h] at hn
  cases hn
theorem strip_ok {w : Str} (h : PyData.strOk w = true) : PyData.strOk (Txt.stripChars w dgS) = true := by
  unfold Txt.stripChars
  rw [PyProof.Rows.stripBy_eq]
  exact strOk_sub h _ _
theorem label_eq {Q : D → GH → Prop} {W : Exc → GH → Prop} {g : GH} {k : Nat} {a0 a1 a2 a4 a5 a6 : Option D} : wp (eIf (tB3 (eBin opLt (eVar 3) (eC (.int 6)))) (eBin opIx (eLstV (aCons (eC (.str "changes")) (aCons (eC (.str "windows")) (aCons (eC (.str "knocks")) aNil)))) (eBin opDiv (eVar 3) (eC (.int 2)))) (eC (.str "pause")) [a0, a1, a2, some (.int ((k : Int) * 2)), a4, a5, a6] g) Q W = Q (.str (labK k)) g := by
  have hk : k = 0 ∨ k = 1 ∨ k = 2 ∨ 3 ≤ k := by omega
  have lg : Nat.log2 2 < 9000 := by decide +kernel
  rcases hk with rfl | rfl | rfl | h
  · simp [labK, lg]
  · simp [labK, lg]
  · simp [labK, lg]
  · have h1 : (6 : Int) ≤ (k : Int) * 2 := by omega
    have h2 : ¬ (k : Int) * 2 < 6 := by omega
    have h3 : ¬ k = 0 := by omega
    have h4 : ¬ k = 1 := by omega
    have h5 : ¬ k = 2 := by omega
    simp [labK, h1, h2, h3, h4, h5]
def outD : Option D → D
  | some d => d
  | none => .non
theorem rd_snoc {ps : List Lb} {k : Nat} {ns : List Int} {p : Lb} {n : Int} (R : Rd ps k ns) (e : ps[k]? = some p) (hl : p.l = labK k) (hn : numB p.f = some n) : Rd ps (k + 1) (ns ++ [n]) := by
  have hlen := R.len
  refine ⟨by simp [hlen], fun i q hi hq => ?_, fun i q hi hq => ?_⟩
  · by_cases h : i = k
    · subst h
      rw [e] at hq
      cases hq
      exact hl
    · exact R.lab i q (by omega) hq
  · by_cases h : i = k
    · subst h
      rw [e] at hq
      cases hq
      rw [hn, List.getElem?_append_right (by omega), hlen]
      simp
    · rw [List.getElem?_append_left (by omega)]
      exact R.num i q (by omega) hq
theorem read_step {n : Nat} {g : GH} {K : Kt} {ps : List Lb} {ns : List Int} {k q : Nat} {p : Lb} {a0 a4 a5 a6 : Option D} (hps : ps.length ≤ 1000) (hok : ∀ p ∈ ps, (PyData.strOk p.l = true) ∧ (PyData.strOk p.f = true ∧ p.f.length ≤ 600)) (e : ps[k]? = some p) (R : Rd ps k ns) (eq : g[q]? = some (.lst (ns.map D.int)))
    (h3 : 3 ≤ ps.length) (hn : readP ps = none → K.rt .non g) (hK : ∀ v a3 a4 a5, Rd ps (k + 1) (ns ++ [v]) → K.nx [a0, some (.rol ((flatP ps).map D.str)), some (.ref q), a3, a4, a5, a6] (g.set q (.lst ((ns ++ [v]).map D.int)))) :
    wps (b_law_read_1 (run n) [a0, some (.rol ((flatP ps).map D.str)), some (.ref q), some (.int ((k : Int) * 2)), a4, a5, a6] g) K := by
  obtain ⟨okl, okf, lf⟩ := hok p (List.mem_of_getElem? e)
  have hk : k < ps.length := (List.getElem?_eq_some_iff.mp e).1
  have flen := flatP_len ps
  have f1 : atI ((flatP ps).map D.str) ((k : Int) * 2) = some (.str p.l) := by
    have h : atI ((flatP ps).map D.str) ((2 * k : Nat) : Int) = some (.str p.l) := atI_map (by rw [flatP_l, e]; rfl)
    have e2 : ((k : Int) * 2) = ((2 * k : Nat) : Int) := by omega
    rw [e2, h]
  have f2 : atI ((flatP ps).map D.str) ((k : Int) * 2 + 1) = some (.str p.f) := by
    have h : atI ((flatP ps).map D.str) ((2 * k + 1 : Nat) : Int) = some (.str p.f) := atI_map (by rw [flatP_f, e]; rfl)
    have e2 : ((k : Int) * 2 + 1) = ((2 * k + 1 : Nat) : Int) := by omega
    rw [e2, h]
  unfold b_law_read_1
  simp only [wps_sSeq, wps_sAsg, label_eq]
  rw [ltr_eq]
  have hlog : Nat.log2 ((k : Int) * 2).natAbs < 9000 := by
    have := Nat.log2_le_self ((k : Int) * 2).natAbs
    omega
  simp [f2, hlog]
  rw [ltr_eq]
  have hfl : p.f.length ≤ 16777216 := by omega
  have hnum : ¬ (decide (1 ≤ p.f.length) && (decide (p.f.length ≤ 2) && allDg p.f)) = true → numB p.f = none := fun h => if_neg h
  by_cases c0 : p.l = labK k
  · rw [c0] at f1
    by_cases c1 : 1 ≤ p.f.length
    · by_cases c2 : p.f.length ≤ 2
      · have c1' : ¬ (p.f.length : Int) < 1 := by omega
        have c2' : ¬ (2 : Int) < (p.f.length : Int) := by omega
        have c1p : (1 : Int) ≤ (p.f.length : Int) := by omega
        have c2p : (p.f.length : Int) ≤ 2 := by omega
        simp [f1, ne_strs (labK_ok k) (labK_ok k), lenV_str hfl, c1', c2', c1p, c2p]
        rw [ltr_eq, wps_sNil]
        dsimp only
        rw [ltr_eq]
        have es : PyData.strOk ("" : Str) = true := by decide +kernel
        have sd := strip_dg c1 c2
        simp [ne_strs (strip_ok okf) es, sd, hfl]
        cases c3 : allDg p.f with
        | true =>
          obtain ⟨v, e1, m0, m1⟩ := int_dg c1 c2 c3
          have hnb : numB p.f = if numS v = p.f then some v else none := by
            unfold numB
            rw [if_pos (by simp [c1, c2, c3]), e1]
          have hl : p.f.length ≤ 640 := by omega
          simp
          rw [ltr_eq, wps_sNil]
          dsimp only
          rw [ltr_eq]
          simp [intS_str e1 hl]
          rw [fStr_int m0 m1, ne_strs (toS_int m0 m1) okf]
          by_cases c4 : numS v = p.f
          · rw [if_pos c4] at hnb
            simp [c4]
            rw [ltr_eq, wps_sNil]
            dsimp only
            rw [ltr_eq]
            simp [intS_str e1 hl, eq]
            refine ⟨?_, ?_⟩
            · have := R.len
              simp
              omega
            · have h9 := hK v (some (.int ((k : Int) * 2))) (some (.str (labK k))) (some (.str p.f)) (rd_snoc R e c0 hnb)
              simpa using h9
          · rw [if_neg c4] at hnb
            have hb := hn (bad_num e h3 hnb)
            simp [c4]
            rw [ltr_eq]
            simp [hb]
        | false =>
          have hb := hn (bad_num e h3 (hnum (by simp [c3])))
          simp
          rw [ltr_eq]
          simp [hb]
      · have hb := hn (bad_num e h3 (hnum (by simp [c2])))
        have c1' : ¬ (p.f.length : Int) < 1 := by omega
        have c2' : (2 : Int) < (p.f.length : Int) := by omega
        have c1p : (1 : Int) ≤ (p.f.length : Int) := by omega
        have c2p : ¬ (p.f.length : Int) ≤ 2 := by omega
        simp [f1, ne_strs (labK_ok k) (labK_ok k), lenV_str hfl, c1', c2', c1p, c2p]
        rw [ltr_eq]
        simp [hb]
    · have hb := hn (bad_num e h3 (hnum (by simp [c1])))
      have c1' : (p.f.length : Int) < 1 := by omega
      have c1p : ¬ (1 : Int) ≤ (p.f.length : Int) := by omega
      simp [f1, ne_strs (labK_ok k) (labK_ok k), lenV_str hfl, c1', c1p]
      rw [ltr_eq]
      simp [hb]
  · have hb := hn (bad_lab e c0)
    simp [f1, ne_strs okl (labK_ok k), lenV_str hfl, c0]
    rw [ltr_eq]
    simp [hb]
theorem law_read_eq {n : Nat} {g : GH} {t : Str} (ht : PyData.strOk t = true) (hl : t.length ≤ 600) : gc (run (n+4) .law_read) [.str t] g = .ok (outD (readT t)) g := by
  have hfl : flD 16 (outD (readT t)) = true := by
    cases h : readT t with
    | none => rfl
    | some d =>
      have : ∃ ps, d = ruleP ps := by
        unfold readT readW at h
        split at h
        · unfold readP at h
          split at h
          · cases h
            exact ⟨_, rfl⟩
          · cases h
        · cases h
      obtain ⟨ps, rfl⟩ := this
      exact flD_up 3 16 _ (by omega) (ruleP_fl ps)
  refine gc_fl hfl ?_
  rw [r_law_read]
  have parts := split_parts (y := spS) ht
  have plen := split_len t spS
  have e16 : t.length ≤ 16777214 := by omega
  have hsp : (spS.length == 0) = false := by decide +kernel
  have hrt : readT t = readW (Txt.split t spS) := rfl
  simp [b_law_read]
  refine ⟨⟨by decide +kernel, e16⟩, ?_⟩
  rw [ltr_eq]
  rw [hrt]
  generalize Txt.split t spS = ws at parts plen
  have hwl : ws.length ≤ 16777216 := by omega
  cases hp : toPairs ws with
  | none =>
    have hodd := toPairs_none ws hp
    have h1 : (ws.length : Int) % 2 = 1 := by omega
    have hr : readW ws = none := by unfold readW; rw [hp]
    simp [h1]
    rw [ltr_eq]
    simp [hr, outD]
    exact Ex.refl g
  | some ps =>
    have hws := toPairs_some ws ps hp
    have hlen : ws.length = 2 * ps.length := by rw [hws, flatP_len]
    have h1 : ¬ (ws.length : Int) % 2 = 1 := by omega
    have hr : readW ws = readP ps := by unfold readW; rw [hp]
    by_cases h3 : 3 ≤ ps.length
    · have h6 : ¬ (ws.length : Int) < 6 := by omega
      simp [h1, h6]
      rw [ltr_eq, wps_sNil]
      dsimp only
      rw [ltr_eq]
      simp
      rw [ltr_eq]
      simp
      rw [hr]
      obtain ⟨q, hq⟩ : ∃ q, q = g.length := ⟨_, rfl⟩
      rw [← hq]
      have hm : (ws.length + 1) / 2 = ps.length := by omega
      rw [hm, hws]
      have e0 : (g ++ [GO.lst []])[q]? = some (.lst (([] : List Int).map D.int)) := by rw [hq]; exact get_end g _
      have x0 : Ex g (g ++ [GO.lst []]) := (App.one g _).ex
      have hok : ∀ p ∈ ps, (PyData.strOk p.l = true) ∧ (PyData.strOk p.f = true ∧ p.f.length ≤ 600) := fun p hp => by
        obtain ⟨k, hk⟩ := List.getElem?_of_mem hp
        have hl1 := flatP_l ps k
        have hf1 := flatP_f ps k
        rw [hk] at hl1 hf1
        have a1 := parts p.l (by rw [hws]; exact List.mem_of_getElem? hl1)
        have a2 := parts p.f (by rw [hws]; exact List.mem_of_getElem? hf1)
        exact ⟨a1.1, a2.1, by omega⟩
      generalize g ++ [GO.lst []] = g1 at e0 x0
      refine ⟨by rw [flatP_len]; omega, wps_list (enc := fun k : Nat => D.int ((k : Int) * 2)) (List.range ps.length) (fun done ρ g' => done = List.range done.length ∧ Ex g g' ∧ ∃ ns, Rd ps done.length ns ∧ g'[q]? = some (.lst (ns.map D.int)) ∧ ∃ a3 a4 a5, ρ = [some (.str t), some (.rol ((flatP ps).map D.str)), some (.ref q), a3, a4, a5, none]) ?_ ?_ ⟨rfl, x0, [], ⟨rfl, fun i p hi => absurd hi (by simp), fun i p hi => absurd hi (by simp)⟩, e0, _, _, _, rfl⟩⟩
      · rintro done k rest ρ g' e ⟨hd, x1, ns, R, eq, a3, a4, a5, rfl⟩
        have hk : k = done.length ∧ k < ps.length := by
          have h1 : (List.range ps.length)[done.length]? = some k := by
            rw [e, List.getElem?_append_right (by omega)]
            simp
          obtain ⟨h2, h3⟩ := List.getElem?_eq_some_iff.mp h1
          simp at h2 h3
          omega
        obtain ⟨rfl, hk⟩ := hk
        rw [wps_stepOf]
        simp only [List.set_cons_succ, List.set_cons_zero]
        refine read_step (p := ps[done.length]) (by omega) hok (List.getElem?_eq_getElem hk) R eq h3 (fun hb => ?_) fun v a3 a4 a5 R2 => ?_
        · rw [hb]
          exact ⟨rfl, x1⟩
        · refine ⟨?_, x1.set (by omega), ns ++ [v], ?_, ?_, _, _, _, rfl⟩
          · rw [List.length_append, List.length_singleton, List.range_succ, ← hd]
          · rw [List.length_append, List.length_singleton]
            exact R2
          · rw [List.getElem?_set_self (List.getElem?_eq_some_iff.mp eq).1]
      · rintro ρ g' ⟨_, x1, ns, R, eq, a3, a4, a5, rfl⟩
        rw [List.length_range] at R
        dsimp only
        rw [ltr_eq]
        rw [← all_num R] at eq
        have at0 : ∀ k : Nat, k < 3 → atI (ps.map fun p => optD (numB p.f)) (k : Int) = some (optD (nAt ps k)) := fun k hk => by
          have hk2 : k < ps.length := by omega
          rw [atI_nat (n := k) rfl (by simpa using hk2)]
          simp [nAt, hk2]
        have a0 := at0 0 (by omega)
        have a1 := at0 1 (by omega)
        have a2 := at0 2 (by omega)
        have c4 : cutD (ps.map fun p => optD (numB p.f)) (some 3) none = (ps.drop 3).map fun p => optD (numB p.f) := by
          rw [show (some (3 : Int)) = some ((3 : Nat) : Int) from rfl, cut_from, List.map_drop]
        simp at a0 a1 a2
        have ix : ∀ {Q : D → GH → Prop} (i : Int), wpo (opIx (.ref q) (.int i) g') Q = ∃ x, atI (ps.map fun p => optD (numB p.f)) i = some x ∧ Q x g' := fun i => ix_lst (lst_ref eq) i
        have sl : ∀ {Q : D → GH → Prop} (lo hi : Option Int), wpo (opSlV (.ref q) lo hi g') Q = Q (.rol (cutD (ps.map fun p => optD (numB p.f)) lo hi)) g' := fun lo hi => by
          have : lstV g' (.ref q) = some (ps.map fun p => optD (numB p.f)) := by
            show (match g'[q]? with
              | some (.lst ds) => some ds
              | _ => none) = _
            rw [eq]
          unfold opSlV
          rw [this]
          rfl
        simp [ix, sl, a0, a1, a2]
        rw [ltr_eq, c4]
        have eR : D.tup [optD (nAt ps 0), optD (nAt ps 1), .tup ((ps.drop 3).map fun p => optD (numB p.f)), optD (nAt ps 2)] = ruleP ps := rfl
        rw [eR]
        have hR := rules_eq (n := n) (g := g') (ruleP_fl ps) (by omega)
        have hI : run (n + 3) .is_rule [ruleP ps] g' = .ok (.bl (codeB (ruleP ps))) g' := by
          apply eq_of_wp
          rw [r_is_rule]
          simp [b_is_rule, hR]
        simp [hI]
        unfold readP
        rw [okB_of R h3]
        cases codeB (ruleP ps) with
        | true => simp [outD]; exact x1
        | false => simp [outD]; exact x1
    · have h6 : (ws.length : Int) < 6 := by omega
      have hr2 : readP ps = none := by
        unfold readP okB
        rw [if_neg (by simp [h3])]
      simp [h1, h6]
      rw [ltr_eq]
      simp [hr, hr2, outD]
      exact Ex.refl g

def triedD : Option D → D
  | some d => d
  | none => .str "text"
theorem rule_in_run {n : Nat} {g : GH} {t : Str} (ht : PyData.strOk t = true) (hl : t.length ≤ 600) : run (n+3) .rule_in [.str t] g = match readT t with
    | some d => .ok d g
    | none => .er (.own 8) g := by
  have h := rule_in_eq (n := n) (g := g) ht hl
  cases e : run (n+3) .rule_in [.str t] g with
  | ok x g' =>
    rw [e] at h
    obtain ⟨⟨d, h1, rfl⟩, rfl⟩ := h
    rw [h1]
  | er x g' =>
    rw [e] at h
    obtain ⟨h1, rfl, rfl⟩ := h
    rw [h1]
  | bad =>
    rw [e] at h
    exact h.elim
theorem read_rule_run {n : Nat} {g : GH} {t : Str} (ht : PyData.strOk t = true) (hl : t.length ≤ 600) : run (n+4) .read_rule [.str t] g = match readT t with
    | some d => .ok d g
    | none => .er (.own 8) g := by
  have h := rule_in_run (n := n) (g := g) ht hl
  cases e : readT t with
  | some d =>
    rw [e] at h
    apply eq_of_wp
    rw [r_read_rule]
    simp [b_read_rule, h]
  | none =>
    rw [e] at h
    apply er_of_wp
    rw [r_read_rule]
    simp [b_read_rule, h]
theorem tried_eq {n : Nat} {g : GH} {t : Str} (ht : PyData.strOk t = true) (hl : t.length ≤ 600) : run (n+5) .law_tried [.str t] g = .ok (triedD (readT t)) g := by
  have h := read_rule_run (n := n) (g := g) ht hl
  apply eq_of_wp
  rw [r_law_tried]
  cases e : readT t with
  | some d =>
    rw [e] at h
    simp [b_law_tried, h]
    rw [ltr_eq]
    simp
    rw [eq_strs (by decide +kernel) (by decide +kernel)]
    simp [h, triedD]
  | none =>
    rw [e] at h
    simp [b_law_tried, h]
    refine ⟨"text", rfl, ?_⟩
    rw [ltr_eq]
    simp
    rw [eq_strs (by decide +kernel) (by decide +kernel)]
    simp [triedD]
    exact .inl (by decide +kernel)
theorem tried_odd {n : Nat} {g : GH} {d : D} (hd : isB .tstr d g = some false) : run (n+5) .law_tried [d] g = .ok (.str "text") g := by
  have h1 : run (n+3) .rule_in [d] g = .er (.own 8) g := by
    apply er_of_wp
    rw [r_rule_in]
    simp [b_rule_in, hd]
    rw [ltr_eq]
    simp
  have h : run (n+4) .read_rule [d] g = .er (.own 8) g := by
    apply er_of_wp
    rw [r_read_rule]
    simp [b_read_rule, h1]
  apply eq_of_wp
  rw [r_law_tried]
  simp [b_law_tried, h]
  refine ⟨"text", rfl, ?_⟩
  rw [ltr_eq]
  simp
  rw [eq_strs (by decide +kernel) (by decide +kernel)]
  simp [triedD]
  exact .inl (by decide +kernel)
def signsA : List D := [.str " ", .str "  ", .str "0", .str "1", .str "5", .str "12", .str "13", .str "-1", .str "pause", .str " pause 3", .str " knocks 1", .str "changes", .str ""]
def signsB : List D := [.str "x", .str "01", .str "\n"]
theorem signs_ok : ∀ x ∈ signsA ++ signsB, ∃ s : Str, x = .str s ∧ PyData.strOk s = true ∧ s.length ≤ 9 := by
  intro x hx
  simp only [signsA, signsB, List.cons_append, List.nil_append, List.mem_cons, List.not_mem_nil, or_false] at hx
  rcases hx with rfl | rfl | rfl | rfl | rfl | rfl | rfl | rfl | rfl | rfl | rfl | rfl | rfl | rfl | rfl | rfl <;> exact ⟨_, rfl, by decide +kernel, by decide +kernel⟩
theorem cutS_ok {s : Str} (h : PyData.strOk s = true) (lo hi : Option Int) : PyData.strOk (cutS s lo hi) = true := by
  simp only [PyData.strOk, cutS] at h ⊢
  rw [← Array.all_toList, List.all_eq_true] at h ⊢
  intro c hc
  exact h c (List.mem_of_mem_drop (List.mem_of_mem_take hc))
theorem app_ok {a b : Str} (ha : PyData.strOk a = true) (hb : PyData.strOk b = true) : PyData.strOk (a ++ b) = true := by
  show (a.cps ++ b.cps).all _ = true
  rw [Array.all_append]
  simp only [PyData.strOk] at ha hb
  rw [ha, hb]
  rfl
/-- the parts of a bent text fit together -/
theorem cut_two (s : Str) {i j : Int} (h0 : 0 ≤ i) (h1 : 0 ≤ j) : (cutS s none (some i)).length + (cutS s (some (i + j)) none).length ≤ s.length := by
  obtain ⟨i, rfl⟩ := Int.eq_ofNat_of_zero_le h0
  obtain ⟨j, rfl⟩ := Int.eq_ofNat_of_zero_le h1
  have e : ((i : Int) + (j : Int)) = ((i + j : Nat) : Int) := by omega
  have hl : s.cps.toList.length = s.length := Array.length_toList
  rw [e]
  unfold cutS
  show List.length _ + List.length _ ≤ s.length
  rw [HT.sIx_nat, HT.sIx_nat, HT.sIx_none, HT.sIx_none]
  simp only [List.length_take, List.length_drop, hl]
  omega
theorem lbent_ok {n r : Nat} {g : GH} {t : Str} (F : Fk r g) (ht : PyData.strOk t = true) (hl : t.length ≤ 500) : wp (run (n+3) .law_bent [.ref r, .str t] g) (fun x g' => (∃ u, x = .str u ∧ PyData.strOk u = true ∧ u.length ≤ t.length + 9) ∧ Fk r g' ∧ Kp r g g' ∧ g'.length = g.length) F0 := by
  have z300 : (1000 : Int) < 10 ^ 300 := by decide +kernel
  rw [r_law_bent]
  simp [b_law_bent]
  rw [ltr_eq]
  simp
  rw [ltr_eq]
  simp [lenV_str (show t.length ≤ 16777216 by omega)]
  refine (sip_ok (n := n+1) F (by omega) (by omega)).use ?_
  rintro _ g1 ⟨i, rfl, i0, i1, F1, K1, L1⟩
  rw [ltr_eq]
  have hl16 : t.length ≤ 16777216 := by omega
  simp [hl16]
  show wp (run (n + 2) .law_some [.ref r, .rol (signsA ++ signsB)] g1) _ _
  refine (some_rol (n := n) F1 (by decide) (by decide)).use ?_
  rintro _ g2 ⟨hm, F2, K2, L2⟩
  obtain ⟨s, rfl, sok, sl⟩ := signs_ok _ hm
  have c2 := cut_two t i0 (Int.le_refl 0)
  have c3 : (cutS t none (some i)).length ≤ t.length := by omega
  simp
  refine ⟨by omega, ?_⟩
  refine (sip_ok (n := n+1) F2 (by omega) (by omega)).use ?_
  rintro _ g3 ⟨j, rfl, j0, j1, F3, K3, L3⟩
  have c4 := cut_two t i0 j0
  simp [len_app, hl16]
  exact ⟨by omega, ⟨app_ok (app_ok (cutS_ok ht _ _) sok) (cutS_ok ht _ _), by omega⟩, F3, (K1.trans K2).trans K3, by rw [L3, L2, L1]⟩

theorem flask_ok {n : Nat} {d : D} {ns : List Int} {k : Int} {g : GH} (h : lstOf g d = some (ns.map D.int)) (h0 : 0 ≤ k) (h1 : k ≤ 1000) :
    wp (run (n+1) .law_flask_of [d, .int k] g) (fun r g' => r = .ref g.length ∧ App g g' ∧ Fk g.length g' ∧ g'.length = g.length + 1) F0 := by
  show wp (runB (b_law_flask_of (run n)) 3 _ g) _ _
  have e1 : k.natAbs + (37003 : Int).natAbs < 1000000 := by omega
  have e2 := lg_small e1
  have e3 := lg_small (show k.natAbs + (149 : Int).natAbs < 1000000 by omega)
  have tail : ∀ c : Int, 0 ≤ c → Ltr (sRet (eLst (aCons (eIf (tB3 (eBin opGe (eVar 2) (eBin opPow (eC (.int 10)) (eC (.int 18))))) (eVar 2) (eC (.int 0))) (aCons (eBin opAddV (eBin opMod (eBi fInt (aCons (eBin opAddV (eBin opAddV (eBin opMul (eBin opMod (eVar 2) (eC (.int 2147482577))) (eC (.int 59))) (eBin opMul (eC (.int 149)) (eVar 1))) (eC (.int 97))) aNil)) (eC (.int 2147482577))) (eC (.int 1))) aNil)))) { nx := fun x g => False, rt := fun r g' => r = .ref g.length ∧ App g g' ∧ Fk g.length g' ∧ g'.length = g.length + 1, bk := fun x g => False, ct := fun x g => False, er := F0 } [some d, some (.int k), some (.int c)] g := fun c hc => by
    rw [ltr_eq]
    have q1 := Int.emod_nonneg c (b := 2147482577) (by omega)
    have q2 := Int.emod_lt_of_pos c (b := 2147482577) (by omega)
    have e4 : (c % 2147482577).natAbs.log2 + Nat.log2 59 < 1000000 := lg_mid (j := 59) ⟨by omega, by omega⟩ (by decide)
    have e5 : Nat.log2 149 + k.natAbs.log2 < 1000000 := by rw [Nat.add_comm]; exact e3
    generalize hq : c % 2147482577 * 59 + 149 * k + 97 = q
    have p1 := Int.emod_nonneg q (b := 2147482577) (by omega)
    have p2 := Int.emod_lt_of_pos q (b := 2147482577) (by omega)
    simp [e4, e5, hq]
    have fin : ∀ a : Int, 0 ≤ a → App g (g ++ [.lst [.int a, .int (q % 2147482577 + 1)]]) ∧ Fk g.length (g ++ [.lst [.int a, .int (q % 2147482577 + 1)]]) := fun a ha => ⟨App.one _ _, a, _, get_end _ _, ha, by omega, by omega⟩
    rcases Int.lt_or_le c 1000000000000000000 with z | z
    · exact .inl ⟨z, fin 0 (by omega)⟩
    · exact .inr ⟨z, fin c hc⟩
  simp [b_law_flask_of]
  refine ⟨by rw [Nat.add_comm]; exact e2, ?_⟩
  rw [ltr_eq]
  rcases Int.lt_or_le k (ns.length : Int) with hk | hk
  · simp [lenV_lst h, hk]
    rw [ltr_eq]
    obtain ⟨x, e, hx⟩ := atI_mem (xs := ns.map D.int) h0 (by simpa using hk)
    obtain ⟨i, _, rfl⟩ := List.mem_map.mp hx
    simp [ix_lst h, e]
    refine ⟨by decide +kernel, by decide +kernel, by decide +kernel, tail _ (Int.emod_nonneg _ (by omega))⟩
  · have hk' : ¬ k < (ns.length : Int) := by omega
    simp [lenV_lst h, hk']
    rw [ltr_eq]
    rcases Nat.eq_zero_or_pos ns.length with z | z
    · have z' : ¬ 0 < ns.length := by omega
      simp [lenV_lst h, z']
      rw [ltr_eq]
      exact tail _ (by omega)
    · simp [lenV_lst h, z]
      rw [ltr_eq]
      obtain ⟨x, e, hx⟩ := atI_mem (xs := ns.map D.int) (i := 0) (by omega) (by simpa using z)
      obtain ⟨i, _, rfl⟩ := List.mem_map.mp hx
      simp [ix_lst h, e]
      have := Int.emod_nonneg (if i < 0 then -i else i) (b := 1000291) (by omega)
      exact tail _ (by omega)

theorem is_non (d : D) {Q : D → GH → Prop} {g : GH} : wpo (opIs (outD (some d)) .non g) Q = Q (.bl (decide (d = .non))) g := by
  cases d <;> rfl
theorem read_rule_D {t : Str} {d : D} (h : readT t = some d) : ∃ ps, d = ruleP ps := by
  unfold readT readW at h
  split at h
  · unfold readP at h
    split at h
    · cases h
      exact ⟨_, rfl⟩
    · cases h
  · cases h
theorem k12_again {n r : Nat} {g g0 : GH} {K : Kt} {t : Str} {o0 o1 o3 o4 o6 o7 o8 o9 o10 : Option D} (F : Fk r g) (K0 : Kp r g0 g) (ht : PyData.strOk t = true) (hl : t.length ≤ 500)
    (hK : ∀ g' u o7, PyData.strOk u = true → u.length ≤ t.length + 9 → Fk r g' → Kp r g0 g' → K.nx [o0, o1, some (.ref r), o3, o4, some (.str u), o6, o7, o8, o9, o10] g') :
    wps (b_law_1 (run (n+8)) [o0, o1, some (.ref r), o3, o4, some (.str t), o6, o7, o8, o9, o10] g) K := by
  simp [b_law_1]
  refine (lbent_ok (n := n+5) F ht hl).use ?_
  rintro _ g1 ⟨⟨u, rfl, uok, ul⟩, F1, K1, L1⟩
  have e1 := law_read_eq (n := n+4) (g := g1) uok (by omega)
  have e2 := tried_eq (n := n+3) (g := g1) uok (by omega)
  have hk := hK g1 u (some (outD (readT u))) uok ul F1 (K0.trans K1)
  rw [ltr_eq]
  simp [e1]
  rw [ltr_eq]
  simp [e2]
  cases e : readT u with
  | none =>
    rw [e] at hk
    have : wpo (opIs (outD none) .non g1) = fun Q => Q (.bl true) g1 := rfl
    simp [this, triedD]
    rw [ne_strs (by decide +kernel) (by decide +kernel)]
    simp
    rw [ltr_eq, wps_sNil]
    exact hk
  | some d =>
    rw [e] at hk
    obtain ⟨ps, rfl⟩ := read_rule_D e
    have hf := flD_up 3 16 _ (by omega) (ruleP_fl ps)
    have : ∀ Q : D → GH → Prop, wpo (opIs (outD (some (ruleP ps))) .non g1) Q = Q (.bl false) g1 := fun Q => rfl
    simp [this, triedD]
    simp only [outD]
    rw [ne_fl hf hf]
    simp
    rw [ltr_eq, wps_sNil]
    exact hk
theorem code_fl (a b c : Int) (p : List Int) : flD 16 (codeD a b c p) = true := by
  have h : (p.map D.int).all (flD 14) = true := by
    rw [List.all_eq_true]
    intro d hd
    obtain ⟨i, _, rfl⟩ := List.mem_map.mp hd
    rfl
  simp only [codeD, flD_tup, List.all_cons, List.all_nil, h, Bool.and_self]
  rfl
theorem k12_turn {n r : Nat} {g g0 : GH} {K : Kt} {o0 o1 o3 o4 o5 o6 o7 o8 o9 o10 : Option D} (F : Fk r g) (K0 : Kp r g0 g)
    (hK : ∀ g' a b c p u o6 o7, Fk r g' → Kp r g0 g' → K.nx [o0, o1, some (.ref r), o3, some (codeD a b c p), some (.str u), o6, o7, o8, o9, o10] g') :
    wps (b_law_2 (run (n+8)) [o0, o1, some (.ref r), o3, o4, o5, o6, o7, o8, o9, o10] g) K := by
  simp [b_law_2]
  refine (lcode_ok (n := n+5) F).use ?_
  rintro _ g1 ⟨⟨a, b, c, p, rfl, ha, hb, hc, hp⟩, F1, K1, L1⟩
  have C := codeP_of ha hb hc hp
  rw [ltr_eq]
  simp
  show wp (run (n+8) .law_writing [codeD a b c p] g1) _ _
  refine (law_writing_eq (n := n+7) C).use ?_
  rintro _ g1' ⟨rfl, rfl⟩
  have e1 := rule_text_eq (n := n+4) (g := g1') C
  have e2 := tried_eq (n := n+3) (g := g1') C.ok (by have := C.len; omega)
  rw [C.rd] at e2
  have e3 : (.tup [.int a, .int b, .tup (p.map D.int), .int c] : D) = codeD a b c p := rfl
  rw [ltr_eq]
  simp [e3, e1, e2, triedD]
  rw [ne_strs C.ok C.ok]
  simp [e2, triedD]
  rw [ne_fl (code_fl a b c p) (code_fl a b c p)]
  simp
  rw [ltr_eq, wps_sNil]
  dsimp only
  rw [ltr_eq]
  simp
  refine wps_upto 3 rfl (fun i ρ g2 => Fk r g2 ∧ Kp r g0 g2 ∧ ∃ u o6 o7, (PyData.strOk u = true ∧ u.length ≤ 100 + 9 * i) ∧ ρ = [o0, o1, some (.ref r), o3, some (codeD a b c p), some (.str u), o6, o7, o8, o9, o10]) ?_ ?_ ⟨F1, K0.trans K1, _, _, _, ⟨C.ok, C.len⟩, rfl⟩
  · rintro i ρ g2 hi ⟨F2, K2, u, o6, o7, ⟨uok, ul⟩, rfl⟩
    rw [wps_stepOf]
    simp only [List.set_cons_succ, List.set_cons_zero]
    exact k12_again (n := n) F2 K2 uok (by omega) fun g' v o7 vok vl F3 K3 => ⟨F3, K3, _, _, _, ⟨vok, by omega⟩, rfl⟩
  · rintro ρ g2 ⟨F2, K2, u, o6, o7, _, rfl⟩
    exact hK _ _ _ _ _ _ _ _ F2 K2
theorem k12_flask {n : Nat} {g : GH} {K : Kt} {d : D} {ns : List Int} {k : Int} {o2 o3 o4 o5 o6 o7 o8 o9 o10 : Option D} (hd : lstOf g d = some (ns.map D.int)) (h0 : 0 ≤ k) (h1 : k ≤ 1000)
    (hK : ∀ g' o2 o3 o4 o5 o6 o7 o8 o9 o10, lstOf g' d = some (ns.map D.int) → K.nx [some d, some (.int k), o2, o3, o4, o5, o6, o7, o8, o9, o10] g') :
    wps (b_law_4 (run (n+8)) [some d, some (.int k), o2, o3, o4, o5, o6, o7, o8, o9, o10] g) K := by
  simp [b_law_4]
  refine (flask_ok (n := n+7) hd h0 h1).use ?_
  rintro _ g1 ⟨rfl, A1, F1, L1⟩
  have hdr : d ≠ .ref g.length := fun z => by
    subst z
    have := lst_lt hd
    omega
  generalize hr : g.length = r at F1 hdr
  have hd1 := app_lst A1 hd
  rw [ltr_eq]
  simp
  refine wps_upto 30 rfl (fun i ρ g2 => Fk r g2 ∧ Kp r g1 g2 ∧ ∃ o3 o4 o5 o6 o7, (i ≠ 0 → ∃ a b c p u, o4 = some (codeD a b c p) ∧ o5 = some (.str u)) ∧ ρ = [some d, some (.int k), some (.ref r), o3, o4, o5, o6, o7, o8, o9, o10]) ?_ ?_ ⟨F1, Kp.refl _ _, _, _, _, _, _, by simp, rfl⟩
  · rintro i ρ g2 hi ⟨F2, K2, o3, o4, o5, o6, o7, h4, rfl⟩
    rw [wps_stepOf]
    simp only [List.set_cons_succ, List.set_cons_zero]
    exact k12_turn (n := n) F2 K2 fun g' a b c p u o6 o7 F3 K3 => ⟨F3, K3, _, _, _, _, _, fun _ => ⟨a, b, c, p, u, rfl, rfl⟩, rfl⟩
  · rintro ρ g2 ⟨F2, K2, o3, o4, o5, o6, o7, h4, rfl⟩
    obtain ⟨a, b, c, p, u, rfl, rfl⟩ := h4 (by omega)
    have hd2 := lst_kp K2 hdr hd1
    dsimp only
    rw [ltr_eq]
    simp
    refine wps_for (all := [.non, .int 5, .tup [.str u], .rol [.str u], .bl true, codeD a b c p]) (fun _ ρ g' => g' = g2 ∧ ∃ o8, ρ = [some d, some (.int k), some (.ref r), o3, some (codeD a b c p), some (.str u), o6, o7, o8, o9, o10]) (fun _ _ _ h => rfl) ?_ ?_ _ (fun _ h => h) _ _ ⟨rfl, _, rfl⟩
    · rintro x _ ρ g' hx ⟨rfl, o8, rfl⟩
      have hb : isB .tstr x g' = some false := by
        simp only [List.mem_cons, List.not_mem_nil, or_false] at hx
        rcases hx with rfl | rfl | rfl | rfl | rfl | rfl <;> rfl
      have e := tried_odd (n := n+3) (g := g') hb
      rw [wps_stepOf]
      simp only [List.set_cons_succ, List.set_cons_zero]
      simp [b_law_3, e]
      rw [ne_strs (by decide +kernel) (by decide +kernel)]
      simp
      rw [ltr_eq, wps_sNil]
      exact ⟨rfl, _, rfl⟩
    · rintro ρ g' ⟨rfl, o8, rfl⟩
      exact hK _ _ _ _ _ _ _ _ _ _ hd2

def rowsA : List D := [.str "", .str "changes", .str "changes 1 windows 1", .str "changes 1 windows 1 knocks", .str "windows 1 changes 1 knocks 0"]
def rowsB : List D := [.str "changes 6 windows 1 knocks 0", .str "changes 1 windows 1 knocks 0 pause"]
def rowsC : List D := [.str "changes 1 windows 1 knocks 0 pause 9 pause 3", .str "changes 1 windows 1 knocks 0 "]
def rowsS : List Str := ["", "changes", "changes 1 windows 1", "changes 1 windows 1 knocks", "windows 1 changes 1 knocks 0", "changes 6 windows 1 knocks 0", "changes 1 windows 1 knocks 0 pause", "changes 01 windows 1 knocks 0", "changes 1 windows 1 knocks 0 pause 9 pause 3", "changes 1 windows 1 knocks 0 ", "Changes 1 windows 1 knocks 0", "changes 1 windows 1 knocks 0 pause 1 pause 2 pause 3"]
def rows8 : List D := [.str "", .str "changes", .str "changes 1 windows 1", .str "changes 1 windows 1 knocks", .str "windows 1 changes 1 knocks 0", .str "changes 6 windows 1 knocks 0", .str "changes 1 windows 1 knocks 0 pause", .str "changes 01 windows 1 knocks 0"]
theorem rows_bad : ∀ t ∈ rowsS, PyData.strOk t = true ∧ t.length ≤ 600 ∧ (readT t).isNone = true := by decide +kernel
theorem row_tried {n : Nat} {g : GH} {t : Str} (h : t ∈ rowsS) : run (n+8) .law_tried [.str t] g = .ok (.str "text") g := by
  obtain ⟨h1, h2, h3⟩ := rows_bad t h
  rw [tried_eq (n := n+3) h1 h2, Option.isNone_iff_eq_none.mp h3]
  rfl
theorem ct : CodeP 2 1 1 [3, 9] := codeP_ok (by decide) (by decide) (by decide) (by decide) (by decide +kernel)
theorem cr : CodeP 1 0 2 [] := codeP_ok (by decide) (by decide) (by decide) (by decide) (by decide +kernel)
theorem wt : writeP 2 1 1 [3, 9] = "changes 2 windows 1 knocks 1 pause 3 pause 9" := by decide +kernel
theorem wr : writeP 1 0 2 [] = "changes 1 windows 0 knocks 2" := by decide +kernel
theorem law_ok {n : Nat} {d : D} {ns : List Int} {g : GH} (hd : lstOf g d = some (ns.map D.int)) : wp (run (n+9) .law [d] g) (fun v _ => v = .bl true) F0 := by
  rw [r_law]
  simp [b_law, lenV_lst hd]
  have hb : 1 ≤ 1 + (if (8 : Int) < (ns.length : Int) then (8 : Int) else (ns.length : Int)) ∧ 1 + (if (8 : Int) < (ns.length : Int) then (8 : Int) else (ns.length : Int)) ≤ 9 := by split <;> omega
  generalize 1 + (if (8 : Int) < (ns.length : Int) then (8 : Int) else (ns.length : Int)) = m at hb
  refine ⟨by omega, wps_rng (fun _ ρ g' => lstOf g' d = some (ns.map D.int) ∧ ∃ o1 o2 o3 o4 o5 o6 o7 o8 o9 o10, ρ = [some d, o1, o2, o3, o4, o5, o6, o7, o8, o9, o10]) (by omega) ?_ ?_ _ _ ⟨hd, _, _, _, _, _, _, _, _, _, _, rfl⟩⟩
  · rintro i ρ g' i0 i1 ⟨h1, o1, o2, o3, o4, o5, o6, o7, o8, o9, o10, rfl⟩
    rw [wps_stepOf]
    simp only [List.set_cons_succ, List.set_cons_zero]
    exact k12_flask (n := n) h1 i0 (by omega) fun g2 o2 o3 o4 o5 o6 o7 o8 o9 o10 h2 => ⟨h2, _, _, _, _, _, _, _, _, _, _, rfl⟩
  · rintro ρ g1 ⟨h1, o1, o2, o3, o4, o5, o6, o7, o8, o9, o10, rfl⟩
    dsimp only
    rw [ltr_eq]
    simp
    rw [ltr_eq]
    simp [add_refs]
    rw [ltr_eq]
    simp
    rw [ltr_eq]
    simp [add_refs]
    rw [ltr_eq]
    simp
    rw [ltr_eq]
    simp
    show Ltr _ _ _ (g1 ++ [.lst rowsA, .lst rowsB, .lst rows8, .lst rowsC, .lst (rowsS.map D.str)])
    have e3 : (g1 ++ [.lst rowsA, .lst rowsB, .lst rows8, .lst rowsC, .lst (rowsS.map D.str)])[g1.length + 4]? = some (GO.lst (rowsS.map D.str)) := by simp
    generalize g1 ++ [.lst rowsA, .lst rowsB, .lst rows8, .lst rowsC, .lst (rowsS.map D.str)] = g2 at e3
    generalize g1.length + 4 = q at e3
    rw [ltr_eq]
    simp [e3]
    refine ⟨by decide, comp_app (fun _ => none) _ (fun g' A => deps_one (A.get e3)) (fun x hx g' A => ⟨_, rfl, ?_⟩) _ fun g' A => ?_⟩
    · obtain ⟨t, ht, rfl⟩ := List.mem_map.mp hx
      simp [wipeR, row_tried (n := n) ht, -Bool.exists_bool]
      rw [ne_strs (by decide +kernel) (by decide +kernel)]
      simp [App.refl]
    · have e4 := rule_text_eq (n := n+4) (g := g') ct
      have e5 := read_rule_run (n := n+4) (g := g') cr.ok (by have := cr.len; omega)
      rw [cr.rd, wr] at e5
      rw [wt] at e4
      simp [codeD] at e4 e5
      have e6 : ((rowsS.map D.str).filterMap fun _ => (none : Option D)) = [] := by simp
      rw [e6, ne_fl (by decide) (by decide)]
      simp
      rw [ltr_eq, wps_sNil]
      dsimp only
      rw [ltr_eq]
      simp [e4]
      rw [ne_strs (by decide +kernel) (by decide +kernel)]
      simp
      rw [ltr_eq, wps_sNil]
      dsimp only
      rw [ltr_eq]
      simp [e5]
      rw [eq_fl (by simp) (by simp)]
      simp
theorem law_true : ∃ N, 3 * N ≤ 225 ∧ ∀ (ns : List Int) (d : D) (g : GH), ns.length ≤ 63 → lstOf g d = some (ns.map D.int) → (d = .scr (ns.map D.int) ∨ d = .ref 0) → ∃ g', run N .law [d] g = .ok (.bl true) g' :=
  ⟨9, by omega, fun ns d g _ h _ => by
    obtain ⟨a, g', e, rfl⟩ := ok_of_wp (law_ok (n := 0) h)
    exact ⟨g', e⟩⟩


end L3

/-! The head of law 12, printed by gen.py. -/
namespace L3
open PySem PySem.Spec PyProof.Rows L2
section
variable {P : Program} {w : World} {K : PySem.W.Frag} {mg : Str → Option Value} {base : Heap} {fd : F → FuncData} {fdw : FuncData}
theorem all_ok (T : Tx K mg fd fdw) (TB : ∀ p ∈ tfs, LamX.TabB base mg (He.cT K p).1 (He.cT K p).2) : ∀ (n : Nat) (j : F), FnOk P w K mg base (L2.CX P w) (3 * n) (He.fAd K (nm j, none)) (fd j) (ps j) (spOf (zOf K P w) (ar j) (run n j))
  | 0, j => FnOk.zero fun _ _ => rfl
  | n + 1, j => by
    have A := all_ok T TB n
    cases j with
    | is_int => exact (d_is_int T A TB).mono (by omega)
    | rules_so => exact (d_rules_so T A TB).mono (by omega)
    | need_rule => exact (d_need_rule T A TB).mono (by omega)
    | is_rule => exact (d_is_rule T A TB).mono (by omega)
    | text_of => exact (d_text_of T A TB).mono (by omega)
    | number_in => exact (d_number_in T A TB).mono (by omega)
    | rule_in => exact (d_rule_in T A TB).mono (by omega)
    | rule_text => exact (d_rule_text T A TB).mono (by omega)
    | read_rule => exact (d_read_rule T A TB).mono (by omega)
    | law_flask_of => exact (d_law_flask_of T A TB).mono (by omega)
    | law_sip => exact (d_law_sip T A TB).mono (by omega)
    | law_some => exact (d_law_some T A TB).mono (by omega)
    | law_code => exact (d_law_code T A TB).mono (by omega)
    | law_read => exact (d_law_read T A TB).mono (by omega)
    | law_writing => exact (d_law_writing T A TB).mono (by omega)
    | law_tried => exact (d_law_tried T A TB).mono (by omega)
    | law_bent => exact (d_law_bent T A TB).mono (by omega)
    | law => exact (d_law T A TB).mono (by omega)
end
theorem binds_law {K : PySem.W.Frag} {mg : Str → Option Value} {fd : F → FuncData} {fdw : FuncData} (T : Tx K mg fd fdw) (s : Shared) (u : Value) : BindsTo s (fd .law) ⟨[u], []⟩ [("script", u)] := by
  have b := FunD.bindsA (ps := ["script"]) (T.fn .law) fun _ _ _ _ _ _ us hl => match us, hl with | [_], _ => rfl
  exact b s [u] rfl
theorem cx_nil {P : Program} {w : World} {H : Hp} {s s2 : Shared} {e : Value} (h : L2.CX P w [] H s (fun _ _ _ => False) e s2) : False := by
  obtain ⟨_, _, _, _, _, _, _, _, _, _, _, _, z⟩ := h
  exact z
def allF : List F := [.is_int, .rules_so, .need_rule, .is_rule, .text_of, .number_in, .rule_in, .rule_text, .read_rule, .law_flask_of, .law_sip, .law_some, .law_code, .law_read, .law_writing, .law_tried, .law_bent, .law]
theorem allF_mem (j : F) : j ∈ allF := by cases j <;> simp [allF]
def dn (j : F) : He.DefD := ⟨(nm j, none), nm j, nm j, defArgs (st j), defBody (st j), defScope (st j), [], []⟩
def dW : He.DefD := ⟨("_law_word", none), "_law_word", "_law_word", defArgs s_law_word, defBody s_law_word, defScope s_law_word, [], []⟩
def fn : List He.DefD := allF.map dn ++ [dW]
def fGlo : List He.Fa := allF.map (fun j => .glo (nm j)) ++ [.glo "_law_word"]
def fFree : List He.Fa := [.free "abs", .free "bool", .free "int", .free "isinstance", .free "len", .free "list", .free "min", .free "range", .free "set", .free "sorted", .free "str", .free "tuple"]
def exB (K : PySem.W.Frag) : Bool := true
def fInts : List He.Fa := [.int "LAST_PAUSE" 12, .int "MOST_CHANGES" 5, .int "MOST_KNOCKS" 2, .int "MOST_PAUSES" 2, .int "MOST_WINDOWS" 4]
def fStrs : List He.Fa := []
def fGx : List He.Fa := (List.range 14).map fun c => .glo (exNm.getD c "")
def fEx : List He.Fa := (List.range 12).map fun c => .exc (exNm.getD c "")
def fXm : List He.Fa := (List.range 12).flatMap fun c => (List.range 12).map fun j => .exm (exNm.getD c "") (exNm.getD j "") (decide (c = j))
def fa : List He.Fa := fGlo ++ (fFree ++ (fInts ++ (fStrs ++ (fGx ++ (fEx ++ fXm)))))
abbrev R : PySem.W.OpenRow := PySem.W.OpenLaw.row PySem.Challenge.rw_benchstops_k12_texts_of_rules
abbrev hk : PySem.W.Hook := He.hookX 5 fa fn [] tfs exB
def ob (s : PySem.W.SharedT) : He.AlX := He.obsX 5 fa fn [] tfs exB (HandSHeadRun.getT s)
theorem ob_eq (s : PySem.W.SharedT) : ob s = hk.obs s.abs := He.obsX_eq (HandSHeadRun.getT_eq s)
def loose : List Str := (["BenchError", "InvalidRule", "InvalidSquad", "InvalidNumber", "InvalidPlan", "InvalidStanding", "InvalidPlace", "InvalidRow", "InvalidReply", "InvalidText", "Unlike", "Over", "NothingToUndo", "TooMany", "MOST_CHANGES", "MOST_WINDOWS", "MOST_PAUSES", "LAST_PAUSE", "MOST_KNOCKS", "is_int", "rules_so", "need_rule", "is_rule", "text_of", "number_in", "rule_in", "rule_text", "read_rule", "_law_flask_of", "_law_sip"] : List Str) ++ (["_law_some", "_law_code", "_law_word", "_law_read", "_law_writing", "_law_tried", "_law_bent"] : List Str)
theorem runs (w : World) : HandSHeadRun.RunEq R (PySem.W.view R.prog [41]) hk ob 9000 loose w := by
  intro os
  kernel_rfl
theorem facts {w : World} {K : PySem.W.Frag} {h : Heap} {mg : Str → Option Value} (X : K.In h) (G : h.Ns mainGlobals mg) (c : He.SaysX fa fn [] tfs exB w h K) :
    ∃ (fd : F → FuncData) (fdw : FuncData), Tx K mg fd fdw := by
  have D := c.t.d
  have fd0 : ∀ j : F, ∃ d, FunD K (nm j) (nm j) (defArgs (st j)) (defBody (st j)) (defScope (st j)) [] [] (He.fAd K (nm j, none)) d := fun j => D.defs (d := dn j) (List.mem_append_left _ (List.mem_map_of_mem (allF_mem j)))
  obtain ⟨fd, hfd⟩ := Classical.axiomOfChoice fd0
  obtain ⟨fdw, hw⟩ := D.defs (d := dW) (List.mem_append_right _ (List.mem_singleton.mpr rfl))
  have g0 : ∀ f, f ∈ fGlo → f ∈ fa := fun f hf => List.mem_append_left _ hf
  have g1 : ∀ f, f ∈ fFree → f ∈ fa := fun f hf => List.mem_append_right _ (List.mem_append_left _ hf)
  have g2 : ∀ f, f ∈ fInts → f ∈ fa := fun f hf => List.mem_append_right _ (List.mem_append_right _ (List.mem_append_left _ hf))
  have g3 : ∀ f, f ∈ fStrs → f ∈ fa := fun f hf => List.mem_append_right _ (List.mem_append_right _ (List.mem_append_right _ (List.mem_append_left _ hf)))
  have g4 : ∀ f, f ∈ fGx → f ∈ fa := fun f hf => List.mem_append_right _ (List.mem_append_right _ (List.mem_append_right _ (List.mem_append_right _ (List.mem_append_left _ hf))))
  have g5 : ∀ f, f ∈ fEx → f ∈ fa := fun f hf => List.mem_append_right _ (List.mem_append_right _ (List.mem_append_right _ (List.mem_append_right _ (List.mem_append_right _ (List.mem_append_left _ hf)))))
  have g6 : ∀ f, f ∈ fXm → f ∈ fa := fun f hf => List.mem_append_right _ (List.mem_append_right _ (List.mem_append_right _ (List.mem_append_right _ (List.mem_append_right _ (List.mem_append_right _ hf)))))
  refine ⟨fd, fdw, ⟨fun j => ?_, hfd, fun j => ?_, ?_, ?_, ?_, ?_, ?_, ?_, ?_, ?_, ?_, ?_, ?_, ?_, ?_, ?_, ?_, ?_, ?_, ?_, hw, ?_, fun k hk => ?_, fun k hk => ?_, fun k j hk hj => ?_⟩⟩
  · exact He.glo_ok X G (D.facts (f := .glo (nm j)) (g0 _ (List.mem_append_left _ (List.mem_map_of_mem (f := fun j => He.Fa.glo (nm j)) (allF_mem j)))))
  · cases j with
    | is_int => exact FunD.bindsN (ps := ps .is_int) (hfd .is_int) fun _ _ _ _ _ _ us hl => match us, hl with | [_, _, _], _ => rfl
    | rules_so => exact FunD.bindsN (ps := ps .rules_so) (hfd .rules_so) fun _ _ _ _ _ _ us hl => match us, hl with | [_], _ => rfl
    | need_rule => exact FunD.bindsN (ps := ps .need_rule) (hfd .need_rule) fun _ _ _ _ _ _ us hl => match us, hl with | [_], _ => rfl
    | is_rule => exact FunD.bindsN (ps := ps .is_rule) (hfd .is_rule) fun _ _ _ _ _ _ us hl => match us, hl with | [_], _ => rfl
    | text_of => exact FunD.bindsN (ps := ps .text_of) (hfd .text_of) fun _ _ _ _ _ _ us hl => match us, hl with | [_], _ => rfl
    | number_in => exact FunD.bindsN (ps := ps .number_in) (hfd .number_in) fun _ _ _ _ _ _ us hl => match us, hl with | [_], _ => rfl
    | rule_in => exact FunD.bindsN (ps := ps .rule_in) (hfd .rule_in) fun _ _ _ _ _ _ us hl => match us, hl with | [_], _ => rfl
    | rule_text => exact FunD.bindsN (ps := ps .rule_text) (hfd .rule_text) fun _ _ _ _ _ _ us hl => match us, hl with | [_], _ => rfl
    | read_rule => exact FunD.bindsN (ps := ps .read_rule) (hfd .read_rule) fun _ _ _ _ _ _ us hl => match us, hl with | [_], _ => rfl
    | law_flask_of => exact FunD.bindsN (ps := ps .law_flask_of) (hfd .law_flask_of) fun _ _ _ _ _ _ us hl => match us, hl with | [_, _], _ => rfl
    | law_sip => exact FunD.bindsN (ps := ps .law_sip) (hfd .law_sip) fun _ _ _ _ _ _ us hl => match us, hl with | [_, _], _ => rfl
    | law_some => exact FunD.bindsN (ps := ps .law_some) (hfd .law_some) fun _ _ _ _ _ _ us hl => match us, hl with | [_, _], _ => rfl
    | law_code => exact FunD.bindsN (ps := ps .law_code) (hfd .law_code) fun _ _ _ _ _ _ us hl => match us, hl with | [_], _ => rfl
    | law_read => exact FunD.bindsN (ps := ps .law_read) (hfd .law_read) fun _ _ _ _ _ _ us hl => match us, hl with | [_], _ => rfl
    | law_writing => exact FunD.bindsN (ps := ps .law_writing) (hfd .law_writing) fun _ _ _ _ _ _ us hl => match us, hl with | [_], _ => rfl
    | law_tried => exact FunD.bindsN (ps := ps .law_tried) (hfd .law_tried) fun _ _ _ _ _ _ us hl => match us, hl with | [_], _ => rfl
    | law_bent => exact FunD.bindsN (ps := ps .law_bent) (hfd .law_bent) fun _ _ _ _ _ _ us hl => match us, hl with | [_, _], _ => rfl
    | law => exact FunD.bindsN (ps := ps .law) (hfd .law) fun _ _ _ _ _ _ us hl => match us, hl with | [_], _ => rfl
  · exact He.free_ok X G (D.facts (f := .free "abs") (g1 _ (by simp [fFree])))
  · exact He.free_ok X G (D.facts (f := .free "bool") (g1 _ (by simp [fFree])))
  · exact He.free_ok X G (D.facts (f := .free "int") (g1 _ (by simp [fFree])))
  · exact He.free_ok X G (D.facts (f := .free "isinstance") (g1 _ (by simp [fFree])))
  · exact He.free_ok X G (D.facts (f := .free "len") (g1 _ (by simp [fFree])))
  · exact He.free_ok X G (D.facts (f := .free "list") (g1 _ (by simp [fFree])))
  · exact He.free_ok X G (D.facts (f := .free "min") (g1 _ (by simp [fFree])))
  · exact He.free_ok X G (D.facts (f := .free "range") (g1 _ (by simp [fFree])))
  · exact He.free_ok X G (D.facts (f := .free "set") (g1 _ (by simp [fFree])))
  · exact He.free_ok X G (D.facts (f := .free "sorted") (g1 _ (by simp [fFree])))
  · exact He.free_ok X G (D.facts (f := .free "str") (g1 _ (by simp [fFree])))
  · exact He.free_ok X G (D.facts (f := .free "tuple") (g1 _ (by simp [fFree])))
  · exact He.int_ok X G (D.facts (f := .int "LAST_PAUSE" 12) (g2 _ (by simp [fInts])))
  · exact He.int_ok X G (D.facts (f := .int "MOST_CHANGES" 5) (g2 _ (by simp [fInts])))
  · exact He.int_ok X G (D.facts (f := .int "MOST_KNOCKS" 2) (g2 _ (by simp [fInts])))
  · exact He.int_ok X G (D.facts (f := .int "MOST_PAUSES" 2) (g2 _ (by simp [fInts])))
  · exact He.int_ok X G (D.facts (f := .int "MOST_WINDOWS" 4) (g2 _ (by simp [fInts])))
  · exact He.glo_ok X G (D.facts (f := .glo "_law_word") (g0 _ (List.mem_append_right _ (by simp))))
  · exact FunD.bindsN (ps := ["call"]) hw fun _ _ _ _ _ _ us hl => match us, hl with | [_], _ => rfl
  · exact He.glo_ok X G (D.facts (f := .glo (exNm.getD k "")) (g4 _ (List.mem_map.mpr ⟨k, List.mem_range.mpr hk, rfl⟩)))
  · exact He.exc_ok (D.facts (f := .exc (exNm.getD k "")) (g5 _ (List.mem_map.mpr ⟨k, List.mem_range.mpr hk, rfl⟩)))
  · exact He.exm_ok (D.facts (f := .exm (exNm.getD k "") (exNm.getD j "") (decide (k = j))) (g6 _ (List.mem_flatMap.mpr ⟨k, List.mem_range.mpr hk, List.mem_map.mpr ⟨j, List.mem_range.mpr hj, rfl⟩⟩)))
theorem tabs_of {K : PySem.W.Frag} {p : Addr × Str} (hp : p ∈ tabs K) : ∃ q ∈ tfs, p.1 = (He.cT K q).2 := by
  unfold tabs at hp
  simp only [List.mem_cons, List.not_mem_nil, or_false] at hp
  rcases hp with rfl
  · exact ⟨_, tf_law_tried, rfl⟩
section
open PySem.W PySem.Calls
abbrev dL : DefRec := HandSHeadRun.topDef R.prog 41
theorem e1 : opening R.prog = plainProg R.prog.main.scope.names := by kernel_rfl
theorem e2 (s) : fenceModules? R.prog s = some s := by kernel_rfl
theorem e3 : defOf (view R.prog [41]) R.name = some (dL, []) := by kernel_rfl
theorem e4 : R.prog.theDef R.name = some (dL.params, dL.body, dL.scope) := by kernel_rfl
theorem e5 : kwWritten? dL.params.kwonlyargs dL.params.kw_defaults = some [] := by kernel_rfl
theorem e6 : (!R.writes || R.records.isEmpty) = true := by rfl
theorem e7 : R.wellSaid = true := by decide +kernel
theorem e8 : (chainsOk (view R.prog [41]) && opensWell R.prog && (frees R.toRowW && R.within.isEmpty)) = true := by decide +kernel
theorem e9 : R.prog.bare := ⟨rfl, rfl, rfl, rfl, rfl, by decide +kernel⟩
theorem e10 : R.toRowW.promised := by w_witness2
theorem e11 : dL.name = ("law" : PySem.Str) := by kernel_rfl
theorem e12 : dL.params.defaults = [] := by kernel_rfl
end
end L3

/-! The end of law 12, printed by gen.py. -/
open PySem PySem.W PySem.Calls PyProof.Rows
theorem L3.end_of (hlaw : ∃ N, 3 * N ≤ 225 ∧ ∀ (ns : List Int) (d : L3.D) (g : L3.GH), ns.length ≤ 63 → L3.lstOf g d = some (ns.map L3.D.int) → (d = .scr (ns.map L3.D.int) ∨ d = .ref 0) → ∃ g', L3.run N .law [d] g = .ok (.bl true) g') : PySem.Challenge.rw_benchstops_k12_texts_of_rules.Holds := by
  obtain ⟨N, hN, hlaw⟩ := hlaw
  w_on; o_law
  refine HandSHeadRun.head_any (r := OpenLaw.row PySem.Challenge.rw_benchstops_k12_texts_of_rules) (q := view (OpenLaw.row PySem.Challenge.rw_benchstops_k12_texts_of_rules).prog [41]) (H := L3.hk) (ob := L3.ob) (M := 9000) (loose := L3.loose) (d := HandSHeadRun.topDef (OpenLaw.row PySem.Challenge.rw_benchstops_k12_texts_of_rules).prog 41) (kwd := []) L3.ob_eq
    L3.e1 L3.e2 L3.runs L3.e3 L3.e4 L3.e5 L3.e6 L3.e7 L3.e8 L3.e9 L3.e10 ?hc
  case hc =>
    refine LamX.walk_ofTsE (l := PySem.Challenge.rw_benchstops_k12_texts_of_rules) (n := 63) (k := 3 * N) (x := "script") (CX := fun w => L2.CX (PySem.Challenge.rw_benchstops_k12_texts_of_rules).prog w) rfl (by decide) L3.e12 (L2.Room.mono (k := 225) ⟨rfl, by decide, by decide⟩ hN) ?F ?X
    case X => exact fun _ _ _ _ _ z => L3.cx_nil z
    intro w mg fa h Y G hmg0
    obtain ⟨K, KX, c⟩ := Y
    obtain ⟨fd, fdw, T⟩ := L3.facts KX G c
    have hmg : mg ("law" : PySem.Str) = some (.ref fa) := by
      have e := L3.e11
      rw [← e]
      exact hmg0
    have ef : fa = He.fAd K ("law", none) := Value.ref.inj (Option.some.inj (hmg.symm.trans (T.mgF .law)))
    refine ⟨K, KX, fd .law, L3.tfs.map (He.cT K), L3.spOf (L3.zOf K (PySem.Challenge.rw_benchstops_k12_texts_of_rules).prog w) 1 (L3.run N .law), ?_, ?_, ?_, ?_, ?_, ?_⟩
    · intro p hp
      obtain ⟨q, hq, rfl⟩ := List.mem_map.mp hp
      exact c.empty q hq
    · intro p hp
      obtain ⟨q, hq, rfl⟩ := List.mem_map.mp hp
      exact c.out q hq
    · intro p hp
      obtain ⟨q, hq, rfl⟩ := List.mem_map.mp hp
      exact PySem.W.codeHd_of_K KX (c.hd q hq)
    · exact fun s u => L3.binds_law T s u
    · intro H a ns hl hb ht hS
      refine L3.law_sp (Z := L3.zOf K (PySem.Challenge.rw_benchstops_k12_texts_of_rules).prog w) (fun p hp => ?_) hS fun d g e o => hlaw ns d g hl e o
      obtain ⟨q, hq, e⟩ := L3.tabs_of hp
      rw [e]
      exact LamX.TabS.nil (ht _ (List.mem_map_of_mem hq))
    · intro base KB GB TB
      rw [ef]
      have GBm : L3.Tx K mg fd fdw := T
      exact L3.all_ok T (fun p hp => TB _ (List.mem_map_of_mem hp)) N .law

theorem PySem.Challenge.cw_benchstops_k12_texts_of_rules_holds : PySem.Challenge.rw_benchstops_k12_texts_of_rules.Holds := by
  exact L3.end_of L3.law_true
