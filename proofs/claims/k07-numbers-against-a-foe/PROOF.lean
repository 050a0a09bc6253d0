import PyProof.Rows.All
import Wide.All
import OpenK.AllK
import Wide.FinOn
import HandS.ForMost
import HandS.ForExc
import HandS.Lambda
import HandS.Strs
import HandS.SetFor
import KE.KeyNested
import KE.KDictKeyed
import HandS.Wide
import HandS.TupAny
import HandS.TupMul
import HandS.Style
import HandS.Deep
import HandS.IsInst
import KE.LtData
import HandS.Conv
import HandS.TryMany
import HandS.EndTab
import HandS.HeadWalk
import HandS.Defaults
import HandS.HeadHook1
import HandS.HeadHook2
import HandS.HeadHook3
import HandS.HeadHook4
import HandS.Head0
import HandS.Head1
import HandS.Head2
import HandS.Dict
import HandS.Iter
import PySem.Challenge.RW_benchstops_k07_numbers_against_a_foe
set_option Elab.async false
set_option linter.all false
set_option maxRecDepth 100000
set_option autoImplicit false
set_option maxHeartbeats 8000000
/-! L3a: a small functional language over the hand layer: values, heap, how they lie in the abstract heap, the transformers. -/
namespace L3
open PySem PySem.Spec PyProof.Rows L2

/-- a value: immutable data, or the i-th mutable object -/
inductive D where
  | non | bl (b : Bool) | int (i : Int) | str (s : Str) | tup (ds : List D) | rol (ds : List D) | ref (i : Nat)
/-- a mutable object -/
inductive GO where
  | lst (ds : List D)
  | iset (ks : List Int)
  | dct (kvs : List (D × D))
/-- the written part and the world -/
structure KW where
  K : PySem.W.Frag
  P : Program
  w : World
abbrev _root_.L2.Cx.kw (X : L2.Cx) : KW := ⟨X.K, X.prog, X.w⟩
abbrev GH := List GO
inductive Exc where
  | own (c : Nat) | lim (c : Nat) (d : D)
inductive Res (α : Type) where
  | ok (a : α) (g : GH) | er (e : Exc) (g : GH) | bad
def Res.bind {α β : Type} (r : Res α) (f : α → GH → Res β) : Res β := match r with
  | .ok a g => f a g
  | .er e g => .er e g
  | .bad => .bad
@[simp] theorem Res.bind_ok {α β : Type} (a : α) (g : GH) (f : α → GH → Res β) : (Res.ok a g).bind f = f a g := rfl
@[simp] theorem Res.bind_er {α β : Type} (e : Exc) (g : GH) (f : α → GH → Res β) : (Res.er e g : Res α).bind f = .er e g := rfl
@[simp] theorem Res.bind_bad {α β : Type} (f : α → GH → Res β) : (Res.bad : Res α).bind f = .bad := rfl

/-! ### how values lie -/
/-- a list that nobody writes -/
def RoL (K : PySem.W.Frag) (H : Hp) (a : Addr) (xs : List V) : Prop :=
  (∃ o, H a = some (.frz o (.lst xs))) ∨
    ∃ (o : Obj) (its : Array Value) (n : Nat), K.lookup a = some o ∧ o.cls = .type "list" ∧ o.dict = none ∧ o.data = .seq its n ∧ its.size ≤ sizeLine ∧ Vals xs its.toList
theorem RoL.sql {K : PySem.W.Frag} {H : Hp} {a : Addr} {xs : List V} (h : RoL K H a xs) : SqL K H a xs := by
  rcases h with ⟨o, h⟩ | h
  · exact .inl (.inr ⟨o, h⟩)
  · exact .inr h

mutual
def DRep (K : KW) (m : List Addr) (H : Hp) : D → V → Prop
  | .non, v => v = .non
  | .bl b, v => v = .bl b
  | .int i, v => v = .int i
  | .str s, v => v = .str s
  | .tup ds, v => ∃ a xs, v = .ref a ∧ SqT K.K H a xs ∧ DReps K m H ds xs
  | .rol ds, v => ∃ a xs, v = .ref a ∧ RoL K.K H a xs ∧ DReps K m H ds xs
  | .ref i, v => ∃ a, v = .ref a ∧ m[i]? = some a
def DReps (K : KW) (m : List Addr) (H : Hp) : List D → List V → Prop
  | [], xs => xs = []
  | d :: ds, xs => ∃ v vs, xs = v :: vs ∧ DRep K m H d v ∧ DReps K m H ds vs
end

/-- free, or a table of code objects -/
def Fr0 (H : Hp) (a : Addr) : Prop := ∀ o, H a = some o → ∃ ps, o = HO.tbl ps
theorem fr0_none {H : Hp} {a : Addr} (h : H a = none) : Fr0 H a := fun o e => by rw [h] at e; cases e
structure Ext (m : List Addr) (H : Hp) (m' : List Addr) (H' : Hp) : Prop where
  pre : ∃ t, m' = m ++ t ∧ ∀ a ∈ t, Fr0 H a
  tups : ∀ b xs, H b = some (.tup xs) → H' b = some (.tup xs)
  frzs : ∀ b o u, H b = some (.frz o u) → H' b = some (.frz o u)
  keep : ∀ b o, H b = some o → b ∉ m → (∀ ps, o ≠ .tbl ps) → H' b = some o
  dom : ∀ b, Fr0 H' b → Fr0 H b

section
variable {K : KW} {m m' m'' : List Addr} {H H' H'' : Hp} {g g' : GH}
theorem Ext.refl : Ext m H m H := ⟨⟨[], by simp, fun _ h => by cases h⟩, fun _ _ h => h, fun _ _ _ h => h, fun _ _ h _ _ => h, fun _ h => h⟩
theorem Ext.mem (e : Ext m H m' H') {b : Addr} {o : HO} (hb : H b = some o) (n : b ∉ m) (nt : ∀ ps, o ≠ .tbl ps) : b ∉ m' := by
  obtain ⟨t, rfl, ht⟩ := e.pre
  intro z
  rcases List.mem_append.mp z with z | z
  · exact n z
  · obtain ⟨ps, e⟩ := ht b z o hb
    exact nt ps e
theorem Ext.get (e : Ext m H m' H') {i : Nat} {a : Addr} (h : m[i]? = some a) : m'[i]? = some a := by
  obtain ⟨t, rfl, _⟩ := e.pre
  rw [List.getElem?_append_left (List.getElem?_eq_some_iff.mp h).1]; exact h
theorem Ext.rd (e : Ext m H m' H') {a : Addr} {xs : List V} (h : SqT K.K H a xs) : SqT K.K H' a xs := by
  rcases h with (h | ⟨o, h⟩) | h
  · exact .inl (.inl (e.tups _ _ h))
  · exact .inl (.inr ⟨o, e.frzs _ _ _ h⟩)
  · exact .inr h
theorem Ext.ro (e : Ext m H m' H') {a : Addr} {xs : List V} (h : RoL K.K H a xs) : RoL K.K H' a xs := by
  rcases h with ⟨o, h⟩ | h
  · exact .inl ⟨o, e.frzs _ _ _ h⟩
  · exact .inr h
theorem sqT_keep (ht : ∀ b xs, H b = some (.tup xs) → H' b = some (.tup xs)) (hf : ∀ b o u, H b = some (.frz o u) → H' b = some (.frz o u)) {a : Addr} {xs : List V} (h : SqT K.K H a xs) : SqT K.K H' a xs := by
  rcases h with (h | ⟨o, h⟩) | h
  · exact .inl (.inl (ht _ _ h))
  · exact .inl (.inr ⟨o, hf _ _ _ h⟩)
  · exact .inr h
theorem roL_keep (hf : ∀ b o u, H b = some (.frz o u) → H' b = some (.frz o u)) {a : Addr} {xs : List V} (h : RoL K.K H a xs) : RoL K.K H' a xs := by
  rcases h with ⟨o, h⟩ | h
  · exact .inl ⟨o, hf _ _ _ h⟩
  · exact .inr h
mutual
theorem DRep.mono0 (hm : ∀ (i : Nat) a, m[i]? = some a → m'[i]? = some a) (ht : ∀ b xs, H b = some (.tup xs) → H' b = some (.tup xs)) (hf : ∀ b o u, H b = some (.frz o u) → H' b = some (.frz o u)) : ∀ (d : D) (v : V), DRep K m H d v → DRep K m' H' d v
  | .non, _, h => by simpa [DRep] using h
  | .bl _, _, h => by simpa [DRep] using h
  | .int _, _, h => by simpa [DRep] using h
  | .str _, _, h => by simpa [DRep] using h
  | .tup ds, v, h => by
    rw [DRep] at h ⊢
    obtain ⟨a, xs, h1, h2, h3⟩ := h
    exact ⟨a, xs, h1, sqT_keep ht hf h2, DReps.mono0 hm ht hf ds xs h3⟩
  | .rol ds, v, h => by
    rw [DRep] at h ⊢
    obtain ⟨a, xs, h1, h2, h3⟩ := h
    exact ⟨a, xs, h1, roL_keep hf h2, DReps.mono0 hm ht hf ds xs h3⟩
  | .ref i, v, h => by
    rw [DRep] at h ⊢
    obtain ⟨a, h1, h2⟩ := h
    exact ⟨a, h1, hm _ _ h2⟩
theorem DReps.mono0 (hm : ∀ (i : Nat) a, m[i]? = some a → m'[i]? = some a) (ht : ∀ b xs, H b = some (.tup xs) → H' b = some (.tup xs)) (hf : ∀ b o u, H b = some (.frz o u) → H' b = some (.frz o u)) : ∀ (ds : List D) (vs : List V), DReps K m H ds vs → DReps K m' H' ds vs
  | [], _, h => by simpa [DReps] using h
  | d :: ds, vs, h => by
    rw [DReps] at h ⊢
    obtain ⟨v, r, h1, h2, h3⟩ := h
    exact ⟨v, r, h1, DRep.mono0 hm ht hf d v h2, DReps.mono0 hm ht hf ds r h3⟩
end
theorem DRep.mono (e : Ext m H m' H') (d : D) (v : V) (h : DRep K m H d v) : DRep K m' H' d v := DRep.mono0 (fun _ _ => e.get) e.tups e.frzs d v h
theorem DReps.mono (e : Ext m H m' H') (ds : List D) (vs : List V) (h : DReps K m H ds vs) : DReps K m' H' ds vs := DReps.mono0 (fun _ _ => e.get) e.tups e.frzs ds vs h
theorem Ext.trans (a : Ext m H m' H') (b : Ext m' H' m'' H'') : Ext m H m'' H'' := by
  refine ⟨?_, fun c xs h => b.tups c xs (a.tups c xs h), fun c o u h => b.frzs c o u (a.frzs c o u h), fun c o h n nt => b.keep c o (a.keep c o h n nt) (a.mem h n nt) nt, fun c h => a.dom c (b.dom c h)⟩
  obtain ⟨t, e1, h1⟩ := a.pre
  obtain ⟨t', e2, h2⟩ := b.pre
  refine ⟨t ++ t', by rw [e2, e1, List.append_assoc], fun x hx => ?_⟩
  rcases List.mem_append.mp hx with hx | hx
  · exact h1 x hx
  · exact a.dom x (h2 x hx)
end

/-! ### dicts whose keys are nested tuples -/
mutual
def nk : D → Option NestedKey
  | .non => some .none
  | .bl b => some (.num (if b then 1 else 0))
  | .int i => some (.num i)
  | .str s => some (.text s)
  | .tup ds => (nks ds).map .tup
  | .rol _ => none
  | .ref _ => none
def nks : List D → Option (List NestedKey)
  | [] => some []
  | d :: ds => (nk d).bind fun k => (nks ds).map fun ks => k :: ks
end
/-- the dict's own object -/
def DicO (P : Program) (w : World) (a : Addr) (xs : List (NestedKey × Addr × Value)) : HO :=
  .ext fun h => ∃ o es ep, h.get? a = some o ∧ o.ExactDict ∧ o.data = .dict es ep ∧ es.toList = xs.map (entryOfKey (nestedKind P w)) ∧ (xs.map (·.1)).Nodup
def PairD (K : KW) (m : List Addr) (H : Hp) : List (D × D) → List (NestedKey × Addr × Value) → Prop
  | [], xs => xs = []
  | (k, d) :: kvs, xs => ∃ key b v vv r, xs = (key, b, v) :: r ∧ nk k = some key ∧ key.depth ≤ 8 ∧ DRep K m H k (.ref b) ∧ RelV vv v ∧ DRep K m H d vv ∧ PairD K m H kvs r
theorem dicO_code (P : Program) (w : World) (a : Addr) {xs : List (NestedKey × Addr × Value)} (hn : (xs.map (·.1)).Nodup) (c : Addr) (q : Str) : DicO P w a xs ≠ LamX.CodeO c q := by
  intro e
  unfold DicO LamX.CodeO at e
  injection e with e
  let o : Obj := { cls := .type "dict", data := .dict (xs.map (entryOfKey (nestedKind P w))).toArray 0 }
  let h : Heap := { objs := Array.replicate (a + 1) o }
  have g : ∀ b, b < a + 1 → h.get? b = some o := fun b hb => by
    unfold Heap.get?
    have : h.objs[b]? = some o := by
      show (Array.replicate (a + 1) o)[b]? = some o
      rw [Array.getElem?_replicate, if_pos hb]
    rw [this]
  have h1 : ∃ o es ep, h.get? a = some o ∧ o.ExactDict ∧ o.data = .dict es ep ∧ es.toList = xs.map (entryOfKey (nestedKind P w)) ∧ (xs.map (·.1)).Nodup := ⟨o, _, 0, g a (Nat.lt_succ_self a), ⟨rfl, rfl, rfl⟩, rfl, by simp, hn⟩
  have h2 := (congrFun e h).mp h1
  obtain ⟨oc, vs, t, h3, h4, _⟩ := h2
  by_cases hc : c < a + 1
  · rw [g c hc] at h3
    cases h3
    cases h4
  · have : h.get? c = none := by
      unfold Heap.get?
      have : h.objs[c]? = none := by
        show (Array.replicate (a + 1) o)[c]? = none
        rw [Array.getElem?_replicate, if_neg hc]
      rw [this]
    rw [this] at h3
    cases h3
/-- a mutable object at its address -/
def ORep (K : KW) (m : List Addr) (H : Hp) : GO → Addr → Prop
  | .lst ds, a => ∃ xs, H a = some (.lst xs) ∧ DReps K m H ds xs
  | .iset ks, a => H a = some (SetO K.w a (fun j => decide (j ∈ ks)) ks.length) ∧ ks.Pairwise (· < ·)
  | .dct kvs, a => ∃ xs, H a = some (DicO K.P K.w a xs) ∧ PairD K m H kvs xs ∧ (xs.map (·.1)).Nodup ∧ (a == sysModules) = false ∧ kvs.length ≤ 16777216
theorem PairD.mono0 {K : KW} {m m' : List Addr} {H H' : Hp} (f : ∀ d v, DRep K m H d v → DRep K m' H' d v) : ∀ (kvs : List (D × D)) (xs : List (NestedKey × Addr × Value)), PairD K m H kvs xs → PairD K m' H' kvs xs
  | [], _, h => h
  | (k, d) :: kvs, xs, ⟨key, b, v, vv, r, e, h1, h2, h3, h4, h5, h6⟩ => ⟨key, b, v, vv, r, e, h1, h2, f _ _ h3, h4, f _ _ h5, PairD.mono0 f kvs r h6⟩

structure S (K : KW) (T : List (Addr × Str)) (m : List Addr) (g : GH) (H : Hp) : Prop where
  nod : m.Nodup
  len : m.length = g.length
  obj : ∀ (i : Nat) a o, m[i]? = some a → g[i]? = some o → ORep K m H o a
  tab : LamX.Tabs T H
section
variable {K : KW} {T : List (Addr × Str)} {m m' m'' : List Addr} {H H' H'' : Hp} {g g' : GH}
theorem ORep.mono (e : Ext m H m' H') {o : GO} {a : Addr} (h : ORep K m H o a) (k : ∀ u, H a = some u → H' a = some u) : ORep K m' H' o a := by
  cases o with
  | lst ds =>
    obtain ⟨xs, h1, h2⟩ := h
    exact ⟨xs, k _ h1, DReps.mono e ds xs h2⟩
  | iset ks => exact ⟨k _ h.1, h.2⟩
  | dct kvs =>
    obtain ⟨xs, h1, h2, h3⟩ := h
    exact ⟨xs, k _ h1, PairD.mono0 (DRep.mono e) kvs xs h2, h3⟩
theorem ORep.mono0 (hm : ∀ (i : Nat) a, m[i]? = some a → m'[i]? = some a) (ht : ∀ b xs, H b = some (.tup xs) → H' b = some (.tup xs)) (hf : ∀ b o u, H b = some (.frz o u) → H' b = some (.frz o u)) {o : GO} {a : Addr} (h : ORep K m H o a)
    (k : ∀ u, H a = some u → H' a = some u) : ORep K m' H' o a := by
  cases o with
  | lst ds =>
    obtain ⟨xs, h1, h2⟩ := h
    exact ⟨xs, k _ h1, DReps.mono0 hm ht hf ds xs h2⟩
  | iset ks => exact ⟨k _ h.1, h.2⟩
  | dct kvs =>
    obtain ⟨xs, h1, h2, h3⟩ := h
    exact ⟨xs, k _ h1, PairD.mono0 (DRep.mono0 hm ht hf) kvs xs h2, h3⟩
/-- what stands at a tracked address of ours -/
def Mine (o : HO) : Prop := match o with
  | .lst _ => True
  | .dK _ => True
  | .dT _ => True
  | .ins _ _ _ => True
  | .ext φ => ∀ c q, HO.ext φ ≠ LamX.CodeO c q
  | _ => False
theorem ORep.some {o : GO} {a : Addr} (h : ORep K m H o a) : ∃ u, H a = some u := by
  cases o with
  | lst ds => obtain ⟨xs, h1, h2⟩ := h; exact ⟨_, h1⟩
  | iset _ => exact ⟨_, h.1⟩
  | dct kvs => obtain ⟨xs, h1, h2⟩ := h; exact ⟨_, h1⟩
theorem S.at (s : S K T m g H) {i : Nat} {a : Addr} (h : m[i]? = some a) : ∃ o, g[i]? = some o ∧ ORep K m H o a := by
  have hi : i < g.length := by rw [← s.len]; exact (List.getElem?_eq_some_iff.mp h).1
  exact ⟨g[i], List.getElem?_eq_getElem hi, s.obj i a _ h (List.getElem?_eq_getElem hi)⟩
theorem S.addr (s : S K T m g H) {i : Nat} {o : GO} (h : g[i]? = some o) : ∃ a, m[i]? = some a ∧ ORep K m H o a := by
  have hi : i < m.length := by rw [s.len]; exact (List.getElem?_eq_some_iff.mp h).1
  exact ⟨m[i], List.getElem?_eq_getElem hi, s.obj i _ o (List.getElem?_eq_getElem hi) h⟩
theorem S.someOf (s : S K T m g H) {a : Addr} (h : a ∈ m) : ∃ u, H a = some u := by
  obtain ⟨i, hi⟩ := List.getElem?_of_mem h
  obtain ⟨o, _, r⟩ := s.at hi
  exact r.some
theorem S.none_mem (s : S K T m g H) {a : Addr} (h : H a = none) : a ∉ m := fun z => by
  obtain ⟨u, hu⟩ := s.someOf z
  rw [h] at hu; cases hu
theorem tabs_keep (t : LamX.Tabs T H) (k : ∀ b o, H b = some o → ¬ Mine o → H' b = some o) : LamX.Tabs T H' := fun p hp => by
  obtain ⟨ps, h1, h2, h3⟩ := t p hp
  refine ⟨ps, k _ _ h1 (fun z => z), h2, fun pos cv hc => ?_⟩
  obtain ⟨c, e1, e2⟩ := h3 pos cv hc
  exact ⟨c, e1, k _ _ e2 fun z => (show ∀ c' q', LamX.CodeO c p.2 ≠ LamX.CodeO c' q' from z) c p.2 rfl⟩
/-- a new thing that is not ours (a tuple, say) -/
theorem S.laid (s : S K T m g H) {p : Addr} {u : HO} (hp : H p = none) : Ext m H m (upd H p u) ∧ S K T m g (upd H p u) := by
  have k : ∀ b o, H b = some o → upd H p u b = some o := fun b o h => by rw [upd_ne (ne_of_none h hp)]; exact h
  have e : Ext m H m (upd H p u) := ⟨⟨[], by simp, fun _ h => by cases h⟩, fun b xs h => k _ _ h, fun b o u h => k _ _ h, fun b o h _ _ => k _ _ h, fun b h o q => h o (k b o q)⟩
  refine ⟨e, s.nod, s.len, fun i a o h1 h2 => (s.obj i a o h1 h2).mono e fun u h => k _ _ h, tabs_keep s.tab fun b o h _ => k _ _ h⟩
/-- a new mutable object -/
theorem S.new (s : S K T m g H) {p : Addr} {u : HO} {o : GO} (hp : H p = none) (r : ORep K (m ++ [p]) (upd H p u) o p) : Ext m H (m ++ [p]) (upd H p u) ∧ S K T (m ++ [p]) (g ++ [o]) (upd H p u) := by
  have k : ∀ b o, H b = some o → upd H p u b = some o := fun b o h => by rw [upd_ne (ne_of_none h hp)]; exact h
  have e : Ext m H (m ++ [p]) (upd H p u) := ⟨⟨[p], rfl, fun b h => by simp at h; rw [h]; exact fr0_none hp⟩, fun b xs h => k _ _ h, fun b o u h => k _ _ h, fun b o h _ _ => k _ _ h, fun b h o q => h o (k b o q)⟩
  refine ⟨e, ?_, by simp [s.len], fun i a q h1 h2 => ?_, tabs_keep s.tab fun b o h _ => k _ _ h⟩
  · rw [List.nodup_append]
    refine ⟨s.nod, by simp, fun a ha b hb => ?_⟩
    simp at hb
    subst hb
    rintro rfl
    exact s.none_mem hp ha
  · by_cases hi : i < m.length
    · rw [List.getElem?_append_left hi] at h1
      rw [List.getElem?_append_left (by rw [← s.len]; exact hi)] at h2
      exact (s.obj i a q h1 h2).mono e fun u h => k _ _ h
    · have hi2 : i = m.length := by
        have := (List.getElem?_eq_some_iff.mp h1).1
        simp at this
        omega
      subst hi2
      have e1 : p = a := by simpa using h1
      have e2 : o = q := by rw [s.len] at h2; simpa using h2
      rw [← e1, ← e2]
      exact r
theorem S.putE (s : S K T m g H) {i : Nat} {a : Addr} {u w : HO} (hi : m[i]? = some a) (hw : H a = some w) (mw : Mine w) (hu : ∀ ps, u ≠ .tbl ps := by intro _ z; cases z) : Ext m H m (upd H a u) := by
  have k : ∀ b o, H b = some o → ¬ Mine o → upd H a u b = some o := fun b o h n => by
    rw [upd_ne]
    · exact h
    · rintro rfl
      rw [hw] at h; cases h; exact n mw
  exact ⟨⟨[], by simp, fun _ h => by cases h⟩, fun b xs h => k _ _ h (fun z => z), fun b o u h => k _ _ h (fun z => z), fun b o h n _ => by
    rw [upd_ne]
    · exact h
    · rintro rfl
      exact n (List.mem_of_getElem? hi), fun b h o q => by
    by_cases hb : b = a
    · subst hb
      obtain ⟨ps, z⟩ := h u upd_same
      exact absurd z (hu ps)
    · exact h o (by rw [upd_ne hb]; exact q)⟩
/-- a mutable object is changed -/
theorem S.put (s : S K T m g H) {i : Nat} {a : Addr} {u w : HO} {o : GO} (hi : m[i]? = some a) (hw : H a = some w) (mw : Mine w) (r : ORep K m (upd H a u) o a) (hu : ∀ ps, u ≠ .tbl ps := by intro _ z; cases z) : Ext m H m (upd H a u) ∧ S K T m (g.set i o) (upd H a u) := by
  have k : ∀ b o, H b = some o → ¬ Mine o → upd H a u b = some o := fun b o h n => by
    rw [upd_ne]
    · exact h
    · rintro rfl
      rw [hw] at h; cases h; exact n mw
  have e : Ext m H m (upd H a u) := ⟨⟨[], by simp, fun _ h => by cases h⟩, fun b xs h => k _ _ h (fun z => z), fun b o u h => k _ _ h (fun z => z), fun b o h n _ => by
    rw [upd_ne]
    · exact h
    · rintro rfl
      exact n (List.mem_of_getElem? hi), fun b h o q => by
    by_cases hb : b = a
    · subst hb
      obtain ⟨ps, z⟩ := h u upd_same
      exact absurd z (hu ps)
    · exact h o (by rw [upd_ne hb]; exact q)⟩
  have hig : i < g.length := by rw [← s.len]; exact (List.getElem?_eq_some_iff.mp hi).1
  refine ⟨e, s.nod, by simp [s.len], fun j b q h1 h2 => ?_, tabs_keep s.tab k⟩
  by_cases hj : j = i
  · subst hj
    rw [hi] at h1; cases h1
    rw [List.getElem?_set_self hig] at h2
    cases h2
    exact r
  · rw [List.getElem?_set_ne (Ne.symm hj)] at h2
    have hba : b ≠ a := by
      rintro rfl
      have h3 := (List.getElem?_eq_some_iff.mp h1)
      have h4 := (List.getElem?_eq_some_iff.mp hi)
      obtain ⟨l1, e1⟩ := h3
      obtain ⟨l2, e2⟩ := h4
      exact hj ((List.getElem_inj s.nod).mp (e1.trans e2.symm))
    exact (s.obj j b q h1 h2).mono e fun u h => by rw [upd_ne hba]; exact h
end

/-! ### slots -/
abbrev Rho := List (Option D)
def RhoRep (K : KW) (m : List Addr) (H : Hp) (ρ : Rho) (σ : L2.St) : Prop := ∀ (i : Nat) d, ρ[i]? = some (some d) → ∃ v, σ[i]? = some (some v) ∧ DRep K m H d v
section
variable {K : KW} {T : List (Addr × Str)} {m m' m'' : List Addr} {H H' H'' : Hp} {g g' : GH} {ρ : Rho} {σ : L2.St}
theorem RhoRep.mono (r : RhoRep K m H ρ σ) (e : Ext m H m' H') : RhoRep K m' H' ρ σ := fun i d h => by
  obtain ⟨v, h1, h2⟩ := r i d h
  exact ⟨v, h1, h2.mono e⟩
theorem RhoRep.set (r : RhoRep K m H ρ σ) {i : Nat} {d : D} {v : V} (hi : i < σ.length) (h : DRep K m H d v) : RhoRep K m H (ρ.set i (some d)) (σ.set i (some v)) := fun j e q => by
  by_cases hj : i = j
  · subst hj
    by_cases hl : i < ρ.length
    · rw [List.getElem?_set_self hl] at q
      cases q
      exact ⟨v, List.getElem?_set_self hi, h⟩
    · rw [List.getElem?_eq_none (by simpa using Nat.le_of_not_lt hl)] at q; cases q
  · rw [List.getElem?_set_ne hj] at q
    rw [List.getElem?_set_ne hj]
    exact r j e q
theorem DReps.length : ∀ {ds : List D} {vs : List V}, DReps K m H ds vs → ds.length = vs.length
  | [], _, h => by rw [DReps] at h; subst h; rfl
  | d :: ds, _, h => by
    rw [DReps] at h
    obtain ⟨v, vs, rfl, _, h2⟩ := h
    simp [DReps.length h2]
theorem DReps.get : ∀ {ds : List D} {vs : List V} {i : Nat} {d : D}, DReps K m H ds vs → ds[i]? = some d → ∃ v, vs[i]? = some v ∧ DRep K m H d v
  | [], _, _, _, _, q => by simp at q
  | d :: ds, _, i, e, h, q => by
    rw [DReps] at h
    obtain ⟨v, vs, rfl, h1, h2⟩ := h
    cases i with
    | zero => simp at q; subst q; exact ⟨v, rfl, h1⟩
    | succ i => simpa using DReps.get (i := i) h2 (by simpa using q)
theorem DReps.get' : ∀ {ds : List D} {vs : List V} {i : Nat} {v : V}, DReps K m H ds vs → vs[i]? = some v → ∃ d, ds[i]? = some d ∧ DRep K m H d v
  | [], _, _, _, h, q => by rw [DReps] at h; subst h; simp at q
  | d :: ds, _, i, e, h, q => by
    rw [DReps] at h
    obtain ⟨v, vs, rfl, h1, h2⟩ := h
    cases i with
    | zero => simp at q; subst q; exact ⟨d, rfl, h1⟩
    | succ i => simpa using DReps.get' (i := i) h2 (by simpa using q)
theorem DReps.append : ∀ {ds es : List D} {vs us : List V}, DReps K m H ds vs → DReps K m H es us → DReps K m H (ds ++ es) (vs ++ us)
  | [], _, _, _, h, k => by rw [DReps] at h; subst h; exact k
  | d :: ds, es, _, us, h, k => by
    rw [DReps] at h
    obtain ⟨v, vs, rfl, h1, h2⟩ := h
    show DReps K m H (d :: (ds ++ es)) (v :: (vs ++ us))
    rw [DReps]
    exact ⟨v, _, rfl, h1, DReps.append h2 k⟩
theorem DReps.take : ∀ {ds : List D} {vs : List V} (n : Nat), DReps K m H ds vs → DReps K m H (ds.take n) (vs.take n)
  | _, _, 0, _ => by simp [DReps]
  | [], _, n + 1, h => by rw [DReps] at h; subst h; simp [DReps]
  | d :: ds, _, n + 1, h => by
    rw [DReps] at h
    obtain ⟨v, vs, rfl, h1, h2⟩ := h
    show DReps K m H (d :: ds.take n) (v :: vs.take n)
    rw [DReps]
    exact ⟨v, _, rfl, h1, DReps.take n h2⟩
theorem DReps.drop : ∀ {ds : List D} {vs : List V} (n : Nat), DReps K m H ds vs → DReps K m H (ds.drop n) (vs.drop n)
  | _, _, 0, h => by simpa using h
  | [], _, n + 1, h => by rw [DReps] at h; subst h; simp [DReps]
  | d :: ds, _, n + 1, h => by
    rw [DReps] at h
    obtain ⟨v, vs, rfl, h1, h2⟩ := h
    exact DReps.drop n h2
theorem DReps.set : ∀ {ds : List D} {vs : List V} (i : Nat) {d : D} {v : V}, DReps K m H ds vs → DRep K m H d v → DReps K m H (ds.set i d) (vs.set i v)
  | [], _, i, _, _, h, k => by rw [DReps] at h; subst h; simp [DReps]
  | d :: ds, _, 0, e, u, h, k => by
    rw [DReps] at h
    obtain ⟨v, vs, rfl, h1, h2⟩ := h
    show DReps K m H (e :: ds) (u :: vs)
    rw [DReps]
    exact ⟨u, vs, rfl, k, h2⟩
  | d :: ds, _, i + 1, e, u, h, k => by
    rw [DReps] at h
    obtain ⟨v, vs, rfl, h1, h2⟩ := h
    show DReps K m H (d :: ds.set i e) (v :: vs.set i u)
    rw [DReps]
    exact ⟨v, _, rfl, h1, DReps.set i h2 k⟩
theorem RhoRep.start {N : List Str} {ds : List D} {vs : List V} (h : DReps K m H ds vs) : RhoRep K m H (ds.map some ++ List.replicate (N.length - ds.length) none) (start N vs) := fun i d q => by
  unfold L2.start
  by_cases hi : i < ds.length
  · rw [List.getElem?_append_left (by simpa using hi)] at q
    rw [List.getElem?_append_left (by simpa [← h.length] using hi)]
    rw [List.getElem?_map] at q
    cases e : ds[i]? with
    | none => rw [e] at q; cases q
    | some d' =>
      rw [e] at q
      have q' : d' = d := by simpa using q
      subst q'
      obtain ⟨v, h1, h2⟩ := h.get e
      exact ⟨v, by rw [List.getElem?_map, h1]; rfl, h2⟩
  · rw [List.getElem?_append_right (by simpa using Nat.le_of_not_lt hi)] at q
    rw [List.getElem?_replicate] at q
    split at q <;> cases q
end

/-! ### the transformers -/
/-- what is wanted behind an L3 result: R says how the result lies -/
def Post {α β : Type} (K : KW) (T : List (Addr × Str)) (R : List Addr → Hp → α → β → Prop) (r : Res α) (m : List Addr) (H : Hp) (Q : β → Hp → Prop) (W : Exc → List Addr → Hp → Prop) : Prop :=
  match r with
  | .ok d g => ∀ m' H' v, Ext m H m' H' → S K T m' g H' → R m' H' d v → Q v H'
  | .er e g => ∀ m' H', Ext m H m' H' → S K T m' g H' → W e m' H'
  | .bad => False
section
variable {α β γ δ : Type} {K : KW} {T : List (Addr × Str)} {R : List Addr → Hp → α → β → Prop} {R2 : List Addr → Hp → γ → δ → Prop} {m m' : List Addr} {H H' : Hp}
theorem Post.ext {r : Res α} {Q : β → Hp → Prop} {W : Exc → List Addr → Hp → Prop} (h : Post K T R r m H Q W) (e : Ext m H m' H') : Post K T R r m' H' Q W := by
  cases r with
  | ok d g => exact fun m2 H2 v e2 s2 r2 => h m2 H2 v (e.trans e2) s2 r2
  | er x g => exact fun m2 H2 e2 s2 => h m2 H2 (e.trans e2) s2
  | bad => exact h
theorem Post.bind {r : Res α} {f : α → GH → Res γ} {Q : δ → Hp → Prop} {Q1 : β → Hp → Prop} {W : Exc → List Addr → Hp → Prop} (h : Post K T R2 (r.bind f) m H Q W)
    (k : ∀ m1 H1 d v g, Ext m H m1 H1 → S K T m1 g H1 → R m1 H1 d v → Post K T R2 (f d g) m1 H1 Q W → Q1 v H1) : Post K T R r m H Q1 W := by
  cases r with
  | ok d g => exact fun m1 H1 v e s r1 => k m1 H1 d v g e s r1 (Post.ext (r := f d g) h e)
  | er x g => exact h
  | bad => exact h
theorem Post.mono {r : Res α} {Q Q' : β → Hp → Prop} {W W' : Exc → List Addr → Hp → Prop} (h : Post K T R r m H Q W) (hQ : ∀ v H, Q v H → Q' v H) (hW : ∀ e m H, W e m H → W' e m H) : Post K T R r m H Q' W' := by
  cases r with
  | ok d g => exact fun m1 H1 v e s r1 => hQ _ _ (h m1 H1 v e s r1)
  | er x g => exact fun m1 H1 e s => hW _ _ _ (h m1 H1 e s)
  | bad => exact h
/-- a result that stands already -/
theorem Post.here {d : α} {g : GH} {v : β} {Q : β → Hp → Prop} {W : Exc → List Addr → Hp → Prop} (h : Post K T R (.ok d g) m H Q W) (s : S K T m g H) (r : R m H d v) : Q v H := h m H v .refl s r
end

def ERep (ec : Nat → Addr) (K : KW) (m : List Addr) (H : Hp) : Exc → Value → Option Addr → Prop
  | .own c, cls, d => cls = .ref (ec c) ∧ d = none
  | .lim c x, cls, d => cls = .ref (ec c) ∧ ∃ dd v, d = some dd ∧ H dd = some (.xd [(("limit" : Str), v)]) ∧ DRep K m H x v
/-- what a row tells of itself -/
structure Row where
  K : KW
  T : List (Addr × Str)
  ec : Nat → Addr
abbrev EV := Rho → GH → Res D
abbrev AV := Rho → GH → Res (List D)
abbrev TV := Rho → GH → Res Bool
abbrev WofX (Z : Row) (W : WX) (σ : L2.St) : Exc → List Addr → Hp → Prop := fun e m H => ∀ cls d, ERep Z.ec Z.K m H e cls d → W cls d σ H
abbrev RD (Z : Row) : List Addr → Hp → D → V → Prop := fun m H d v => DRep Z.K m H d v
abbrev RDs (Z : Row) : List Addr → Hp → List D → List V → Prop := fun m H d v => DReps Z.K m H d v
abbrev RB : List Addr → Hp → Bool → Bool → Prop := fun _ _ b c => b = c
/-- an expression's reading -/
def tE (Z : Row) (ev : EV) (W : WX) : TE := fun σ H Q => ∃ m g ρ, S Z.K Z.T m g H ∧ RhoRep Z.K m H ρ σ ∧ Post Z.K Z.T (RD Z) (ev ρ g) m H Q (WofX Z W σ)
def tA3 (Z : Row) (av : AV) (W : WX) : TA := fun σ H Q => ∃ m g ρ, S Z.K Z.T m g H ∧ RhoRep Z.K m H ρ σ ∧ Post Z.K Z.T (RDs Z) (av ρ g) m H Q (WofX Z W σ)
def tT (Z : Row) (tv : TV) (W : WX) : TT := fun σ H Q => ∃ m g ρ, S Z.K Z.T m g H ∧ RhoRep Z.K m H ρ σ ∧ Post Z.K Z.T RB (tv ρ g) m H Q (WofX Z W σ)
/-- what a statement comes to -/
inductive Out where
  | nx (ρ : Rho) (g : GH) | rt (d : D) (g : GH) | bk (ρ : Rho) (g : GH) | ct (ρ : Rho) (g : GH) | er (e : Exc) (ρ : Rho) (g : GH) | bad
abbrev SV := Rho → GH → Out
def PostS (Z : Row) (o : Out) (m : List Addr) (H : Hp) (n : Nat) (D : Ends) (W : WX) : Prop :=
  match o with
  | .nx ρ g => ∀ m' H' σ', Ext m H m' H' → S Z.K Z.T m' g H' → σ'.length = n → RhoRep Z.K m' H' ρ σ' → D.nx σ' H'
  | .rt d g => ∀ m' H' v, Ext m H m' H' → S Z.K Z.T m' g H' → DRep Z.K m' H' d v → D.rt v H'
  | .bk ρ g => ∀ m' H' σ', Ext m H m' H' → S Z.K Z.T m' g H' → σ'.length = n → RhoRep Z.K m' H' ρ σ' → D.bk σ' H'
  | .ct ρ g => ∀ m' H' σ', Ext m H m' H' → S Z.K Z.T m' g H' → σ'.length = n → RhoRep Z.K m' H' ρ σ' → D.ct σ' H'
  | .er e ρ g => ∀ m' H' σ' cls d, Ext m H m' H' → S Z.K Z.T m' g H' → σ'.length = n → RhoRep Z.K m' H' ρ σ' → ERep Z.ec Z.K m' H' e cls d → W cls d σ' H'
  | .bad => False
def tS (Z : Row) (sv : SV) (W : WX) : TS := fun D σ H => ∃ m g ρ, S Z.K Z.T m g H ∧ RhoRep Z.K m H ρ σ ∧ PostS Z (sv ρ g) m H σ.length D W
theorem PostS.ext {Z : Row} {o : Out} {m m' : List Addr} {H H' : Hp} {n : Nat} {D : Ends} {W : WX} (h : PostS Z o m H n D W) (e : Ext m H m' H') : PostS Z o m' H' n D W := by
  cases o with
  | nx ρ g => exact fun m2 H2 σ2 e2 => h m2 H2 σ2 (e.trans e2)
  | rt d g => exact fun m2 H2 v e2 => h m2 H2 v (e.trans e2)
  | bk ρ g => exact fun m2 H2 σ2 e2 => h m2 H2 σ2 (e.trans e2)
  | ct ρ g => exact fun m2 H2 σ2 e2 => h m2 H2 σ2 (e.trans e2)
  | er x ρ g => exact fun m2 H2 σ2 c d e2 => h m2 H2 σ2 c d (e.trans e2)
  | bad => exact h
theorem _root_.L2.PE.imp {X : Cx} {e : Expr} {t t' : TE} (h : PE X e t) (k : ∀ σ H Q, t' σ H Q → t σ H Q) : PE X e t' := ⟨fun pins s σ H Q I q => h.run pins s σ H Q I (k σ H Q q)⟩
theorem _root_.L2.PT.imp {X : Cx} {e : Expr} {t t' : TT} (h : PT X e t) (k : ∀ σ H Q, t' σ H Q → t σ H Q) : PT X e t' := ⟨fun pins s σ H Q I q => h.run pins s σ H Q I (k σ H Q q)⟩
theorem _root_.L2.PW.imp {X : Cx} {e : Expr} {t t' : TT} (h : PW X e t) (k : ∀ σ H Q, t' σ H Q → t σ H Q) : PW X e t' := ⟨fun wh pins s σ H Q I q => h.run wh pins s σ H Q I (k σ H Q q)⟩
theorem _root_.L2.PA.imp {X : Cx} {e : List Expr} {t t' : TA} (h : PA X e t) (k : ∀ σ H Q, t' σ H Q → t σ H Q) : PA X e t' := ⟨fun pos pins s σ H Q I q => h.run pos pins s σ H Q I (k σ H Q q)⟩
theorem _root_.L2.PS.imp {X : Cx} {e : Stmt} {t t' : TS} (h : PS X e t) (k : ∀ D (σ : L2.St) H, σ.length = X.N.length → t' D σ H → t D σ H) : PS X e t' := ⟨fun pins s σ H Q I q => h.run pins s σ H Q I (k Q σ H I.len q)⟩
theorem _root_.L2.PSs.imp {X : Cx} {e : List Stmt} {t t' : TS} (h : PSs X e t) (k : ∀ D (σ : L2.St) H, σ.length = X.N.length → t' D σ H → t D σ H) : PSs X e t' := ⟨fun pins s σ H Q I q => h.run pins s σ H Q I (k Q σ H I.len q)⟩
end L3

/-! L3b: expressions. -/
namespace L3
open PySem PySem.Spec PyProof.Rows L2

def liftO {α : Type} (o : Option (α × GH)) : Res α := match o with
  | some (a, g) => .ok a g
  | none => .bad
@[simp] theorem liftO_some {α : Type} (a : α) (g : GH) : liftO (some (a, g)) = .ok a g := rfl
@[simp] theorem liftO_none {α : Type} : liftO (none : Option (α × GH)) = .bad := rfl
theorem Post.lift {α β : Type} {K : KW} {T : List (Addr × Str)} {R : List Addr → Hp → α → β → Prop} {o : Option (α × GH)} {m : List Addr} {H : Hp} {Q : β → Hp → Prop} {W W' : Exc → List Addr → Hp → Prop}
    (h : Post K T R (liftO o) m H Q W) : Post K T R (liftO o) m H Q W' := by
  cases o with
  | none => exact h
  | some p => exact h
abbrev F1 := D → GH → Option (D × GH)
abbrev F2 := D → D → GH → Option (D × GH)
abbrev FN := List D → GH → Option (D × GH)
abbrev W0 : Exc → List Addr → Hp → Prop := fun _ _ _ => False
def r1 (Z : Row) (f : F1) : V → Hp → VK → Prop := fun x H Q => ∃ m g d, S Z.K Z.T m g H ∧ DRep Z.K m H d x ∧ Post Z.K Z.T (RD Z) (liftO (f d g)) m H Q W0
def r2 (Z : Row) (f : F2) : L2.R2 := fun x y H Q => ∃ m g d e, S Z.K Z.T m g H ∧ DRep Z.K m H d x ∧ DRep Z.K m H e y ∧ Post Z.K Z.T (RD Z) (liftO (f d e g)) m H Q W0
def rN (Z : Row) (f : FN) : List V → Hp → VK → Prop := fun xs H Q => ∃ m g ds, S Z.K Z.T m g H ∧ DReps Z.K m H ds xs ∧ Post Z.K Z.T (RD Z) (liftO (f ds g)) m H Q W0

/-! ### the language's expressions -/
def eVar (i : Nat) : EV := fun ρ g => match ρ[i]? with
  | some (some d) => .ok d g
  | _ => .bad
def eC (d : D) : EV := fun _ g => .ok d g
def eBin (f : F2) (a b : EV) : EV := fun ρ g => (a ρ g).bind fun d g1 => (b ρ g1).bind fun e g2 => liftO (f d e g2)
def eUn (f : F1) (a : EV) : EV := fun ρ g => (a ρ g).bind fun d g1 => liftO (f d g1)
def eBi (f : FN) (as : AV) : EV := fun ρ g => (as ρ g).bind fun ds g1 => liftO (f ds g1)
def aNil : AV := fun _ g => .ok [] g
def aCons (a : EV) (as : AV) : AV := fun ρ g => (a ρ g).bind fun d g1 => (as ρ g1).bind fun ds g2 => .ok (d :: ds) g2
def eTup (as : AV) : EV := fun ρ g => (as ρ g).bind fun ds g1 => if ds.length ≤ 16777216 then .ok (.tup ds) g1 else .bad
def eLst (as : AV) : EV := fun ρ g => (as ρ g).bind fun ds g1 => if ds.length ≤ 16777216 then .ok (.ref g1.length) (g1 ++ [.lst ds]) else .bad
def tB3 (a : EV) : TV := fun ρ g => (a ρ g).bind fun d g1 => match d with
  | .bl b => .ok b g1
  | _ => .bad
def tAnd3 (a b : TV) : TV := fun ρ g => (a ρ g).bind fun c g1 => if c then b ρ g1 else .ok false g1
def tOr3 (a b : TV) : TV := fun ρ g => (a ρ g).bind fun c g1 => if c then .ok true g1 else b ρ g1
def tNot3 (a : TV) : TV := fun ρ g => (a ρ g).bind fun c g1 => .ok (!c) g1
def eAnd (a b : EV) : EV := fun ρ g => (a ρ g).bind fun d g1 => match d with
  | .bl true => b ρ g1
  | .bl false => .ok (.bl false) g1
  | _ => .bad
def eOr (a b : EV) : EV := fun ρ g => (a ρ g).bind fun d g1 => match d with
  | .bl false => b ρ g1
  | .bl true => .ok (.bl true) g1
  | _ => .bad
def eNot (a : EV) : EV := fun ρ g => (a ρ g).bind fun d g1 => match d with
  | .bl b => .ok (.bl !b) g1
  | _ => .bad
def eIf (t : TV) (a b : EV) : EV := fun ρ g => (t ρ g).bind fun c g1 => if c then a ρ g1 else b ρ g1
def eCall (f : List D → GH → Res D) (as : AV) : EV := fun ρ g => (as ρ g).bind f
def eChain (f1 f2 : F2) (a b c : EV) : EV := fun ρ g => (a ρ g).bind fun x g1 => (b ρ g1).bind fun y g2 => (liftO (f1 x y g2)).bind fun k g3 => match k with
  | .bl true => (c ρ g3).bind fun z g4 => liftO (f2 y z g4)
  | .bl false => .ok (.bl false) g3
  | _ => .bad

section
variable {X : Cx} {Z : Row} {W : WX} {pos : Pos} {a b c : Expr} {ea eb ecc : EV} {ta tb : TV} {es : List Expr} {as : AV}
theorem pe3_var (i : Nat) {x : Str} (hN : X.N[i]? = some x := by rfl) (hv : Vis X.env.scope x := by first | exact Or.inl rfl | exact Or.inr (Or.inl rfl) | exact Or.inr (Or.inr rfl)) (hd : (x == ("__debug__" : Str)) = false := by decide)
    (hcd : (x == ("__classdict__" : Str)) = false := by decide) : PE X (.Name x pos) (tE Z (eVar i) W) := (pe_var hN hv hd hcd).imp fun σ H Q ⟨m, g, ρ, s, r, h⟩ => by
  unfold eVar at h
  split at h
  · rename_i d e
    obtain ⟨v, h1, h2⟩ := r i d e
    exact ⟨v, h1, h.here s h2⟩
  · exact h.elim
theorem pe3_int {i j} : PE X (.Constant (.int i) j pos) (tE Z (eC (.int i)) W) := pe_int.imp fun σ H Q ⟨m, g, ρ, s, r, h⟩ => Post.here (d := D.int i) h s (by simp [DRep])
theorem pe3_bl {i j} : PE X (.Constant (.bool i) j pos) (tE Z (eC (.bl i)) W) := pe_bl.imp fun σ H Q ⟨m, g, ρ, s, r, h⟩ => Post.here (d := D.bl i) h s (by simp [DRep])
theorem pe3_non {j} : PE X (.Constant .none j pos) (tE Z (eC .non) W) := pe_non.imp fun σ H Q ⟨m, g, ρ, s, r, h⟩ => Post.here (d := D.non) h s (by simp [DRep])
theorem pe3_str {i j} : PE X (.Constant (.str i) j pos) (tE Z (eC (.str i)) W) := pe_str.imp fun σ H Q ⟨m, g, ρ, s, r, h⟩ => Post.here (d := D.str i) h s (by simp [DRep])
/-- a constant of the module -/
theorem pe3_glob {x : Str} {d : D} {v : V} {u : Value} (hg : Gl X x) (hm : X.mg x = some u) (r : RelV v u) (hr : ∀ m H, DRep Z.K m H d v) (hd : (x == ("__debug__" : Str)) = false := by decide) : PE X (.Name x pos) (tE Z (eC d) W) :=
  (pe_glob hg hm r hd).imp fun σ H Q ⟨m, g, ρ, s, r, h⟩ => Post.here (d := d) h s (hr _ _)

/-- two in a row -/
theorem two {Q : V → V → Hp → Prop} {f : D → D → GH → Res D} {Q0 : VK} {σ : L2.St} {H : Hp} {ρ : Rho} {m : List Addr} {g : GH} (s : S Z.K Z.T m g H) (r : RhoRep Z.K m H ρ σ)
    (h : Post Z.K Z.T (RD Z) ((ea ρ g).bind fun d g1 => (eb ρ g1).bind fun e g2 => f d e g2) m H Q0 (WofX Z W σ))
    (k : ∀ m2 H2 d e v u g2, Ext m H m2 H2 → S Z.K Z.T m2 g2 H2 → DRep Z.K m2 H2 d v → DRep Z.K m2 H2 e u → RhoRep Z.K m2 H2 ρ σ → Post Z.K Z.T (RD Z) (f d e g2) m2 H2 Q0 (WofX Z W σ) → Q v u H2) :
    tE Z ea W σ H fun x H1 => tE Z eb W σ H1 fun y H2 => Q x y H2 :=
  ⟨m, g, ρ, s, r, h.bind fun m1 H1 d v g1 e1 s1 r1 h1 => ⟨m1, g1, ρ, s1, r.mono e1, h1.bind fun m2 H2 e u g2 e2 s2 r2 h2 => k m2 H2 d e v u g2 (e1.trans e2) s2 (r1.mono e2) r2 ((r.mono e1).mono e2) h2⟩⟩
theorem pe3_bin {op : Operator} {f : F2} (ho : OpR X (binaryOp op) (r2 Z f)) (ha : PE X a (tE Z ea W)) (hb : PE X b (tE Z eb W)) : PE X (.BinOp a op b pos) (tE Z (eBin f ea eb) W) :=
  (pe_op ho ha hb).imp fun σ H Q ⟨m, g, ρ, s, r, h⟩ => two (f := fun d e g => liftO (f d e g)) s r h fun m2 H2 d e v u g2 _ s2 r1 r2 _ h2 => ⟨m2, g2, d, e, s2, r1, r2, h2.lift⟩
theorem pe3_cmp {op : CmpOp} {f : F2} (ho : OpR X (compareOp op) (r2 Z f)) (ha : PE X a (tE Z ea W)) (hb : PE X b (tE Z eb W)) (hm : behindInMarks op b = false := by first | exact nomark _ | rfl) : PE X (.Compare a [op] [b] pos) (tE Z (eBin f ea eb) W) :=
  (pe_cmpR ho ha hb hm).imp fun σ H Q ⟨m, g, ρ, s, r, h⟩ => two (f := fun d e g => liftO (f d e g)) s r h fun m2 H2 d e v u g2 _ s2 r1 r2 _ h2 => ⟨m2, g2, d, e, s2, r1, r2, h2.lift⟩
theorem pt3_cmp {op : CmpOp} {f : F2} (ho : OpR X (compareOp op) (r2 Z f)) (ha : PE X a (tE Z ea W)) (hb : PE X b (tE Z eb W)) (hm : behindInMarks op b = false := by first | exact nomark _ | rfl) : PT X (.Compare a [op] [b] pos) (tT Z (tB3 (eBin f ea eb)) W) :=
  (pt_cmpR ho ha hb hm).imp fun σ H Q ⟨m, g, ρ, s, r, h⟩ => by
    unfold tB3 eBin at h
    show tE Z ea W σ H fun x H1 => tE Z eb W σ H1 fun y H2 => r2 Z f x y H2 fun x H' => ∃ k, x = .bl k ∧ Q k H'
    refine ⟨m, g, ρ, s, r, ?_⟩
    cases e1 : ea ρ g with
    | bad => rw [e1] at h; exact h
    | er x g1 => rw [e1] at h; exact h
    | ok d g1 =>
      rw [e1] at h
      intro m1 H1 v x1 s1 r1
      refine ⟨m1, g1, ρ, s1, r.mono x1, ?_⟩
      simp only [Res.bind_ok] at h
      cases e2 : eb ρ g1 with
      | bad => rw [e2] at h; exact h
      | er x g1 => rw [e2] at h; exact Post.ext (r := Res.er (α := Bool) _ _) h x1
      | ok e g2 =>
        rw [e2] at h
        intro m2 H2 u x2 s2 r2
        refine ⟨m2, g2, d, e, s2, r1.mono x2, r2, ?_⟩
        simp only [Res.bind_ok] at h
        cases e3 : f d e g2 with
        | none => rw [e3] at h; exact h
        | some p =>
          rw [e3] at h
          intro m3 H3 w x3 s3 r3
          have h' : Post Z.K Z.T RB (match p.1 with | .bl b => Res.ok b p.2 | _ => .bad) m H Q (WofX Z W σ) := h
          split at h'
          · rename_i b eb
            rw [eb] at r3
            refine ⟨b, by simpa [DRep] using r3, ?_⟩
            exact h' m3 H3 b ((x1.trans x2).trans x3) s3 rfl
          · exact h'.elim
theorem pe3_un {op : UnaryOp} {f : F1} (ho : UnR X (unaryOp op) (r1 Z f)) (ha : PE X a (tE Z ea W)) : PE X (.UnaryOp op a pos) (tE Z (eUn f ea) W) :=
  (pe_un ho ha).imp fun σ H Q ⟨m, g, ρ, s, r, h⟩ => ⟨m, g, ρ, s, r, Post.bind h fun m1 H1 d v g1 e1 s1 r1 h1 => ⟨m1, g1, d, s1, r1, h1.lift⟩⟩
theorem pa3_nil : PA X [] (tA3 Z aNil W) := pa_nil.imp fun σ H Q ⟨m, g, ρ, s, r, h⟩ => Post.here (d := ([] : List D)) h s (by simp [DReps])
theorem pa3_cons {e : Expr} (he : PE X e (tE Z ea W)) (hs : PA X es (tA3 Z as W)) (hx : starEach (e :: es) X.env = (false, eval e X.env) :: starEach es X.env := by rfl) : PA X (e :: es) (tA3 Z (aCons ea as) W) :=
  (pa_cons he hs hx).imp fun σ H Q ⟨m, g, ρ, s, r, h⟩ => ⟨m, g, ρ, s, r, Post.bind h fun m1 H1 d v g1 e1 s1 r1 h1 => ⟨m1, g1, ρ, s1, r.mono e1, Post.bind h1 fun m2 H2 ds vs g2 e2 s2 r2 h2 =>
    Post.here (d := d :: ds) h2 s2 (by show DReps _ _ _ (d :: ds) (v :: vs); rw [DReps]; exact ⟨v, vs, rfl, r1.mono e2, r2⟩)⟩⟩
theorem len_line {ds : List D} {vs : List V} {K : KW} {m : List Addr} {H : Hp} (r : DReps K m H ds vs) (h : ds.length ≤ 16777216) : vs.length ≤ sizeLine := by rw [← r.length, sizeLine_eq]; exact h
theorem pe3_tup {x1} (h : PA X es (tA3 Z as W)) : PE X (.Tuple es x1 pos) (tE Z (eTup as) W) :=
  (pe_tup h).imp fun σ H Q ⟨m, g, ρ, s, r, h⟩ => ⟨m, g, ρ, s, r, Post.bind h fun m1 H1 ds vs g1 e1 s1 r1 h1 => by
    split at h1
    · rename_i hl
      refine ⟨len_line r1 hl, fun p hp => ?_⟩
      obtain ⟨e2, s2⟩ := s1.laid (u := .tup vs) hp
      exact h1 m1 _ (.ref p) e2 s2 (by show DRep _ _ _ (.tup ds) _; rw [DRep]; exact ⟨p, vs, rfl, SqT.of upd_same, DReps.mono e2 _ _ r1⟩)
    · exact h1.elim⟩
theorem lst_new {m : List Addr} {g : GH} {H : Hp} {ds : List D} {vs : List V} {p : Addr} {K : KW} {T : List (Addr × Str)} (s : S K T m g H) (r : DReps K m H ds vs) (hp : H p = none) :
    Ext m H (m ++ [p]) (upd H p (.lst vs)) ∧ S K T (m ++ [p]) (g ++ [.lst ds]) (upd H p (.lst vs)) ∧ DRep K (m ++ [p]) (upd H p (.lst vs)) (.ref g.length) (.ref p) := by
  have k : ∀ b o, H b = some o → upd H p (.lst vs) b = some o := fun b o h => by rw [upd_ne (ne_of_none h hp)]; exact h
  have e0 : Ext m H (m ++ [p]) (upd H p (.lst vs)) := ⟨⟨[p], rfl, fun b h => by simp at h; rw [h]; exact fr0_none hp⟩, fun b xs h => k _ _ h, fun b o u h => k _ _ h, fun b o h _ _ => k _ _ h, fun b h o q => h o (k b o q)⟩
  obtain ⟨e, s2⟩ := s.new (u := .lst vs) (o := .lst ds) hp ⟨vs, upd_same, DReps.mono e0 _ _ r⟩
  refine ⟨e, s2, ?_⟩
  rw [DRep]
  exact ⟨p, rfl, by rw [← s.len]; simp⟩
theorem pe3_lst (h : PA X es (tA3 Z as W)) : PE X (.List es pos) (tE Z (eLst as) W) :=
  (pe_lst h).imp fun σ H Q ⟨m, g, ρ, s, r, h⟩ => ⟨m, g, ρ, s, r, Post.bind h fun m1 H1 ds vs g1 e1 s1 r1 h1 => by
    split at h1
    · rename_i hl
      refine ⟨len_line r1 hl, fun p hp => ?_⟩
      obtain ⟨e2, s2, r2⟩ := lst_new s1 r1 hp
      exact h1 _ _ (.ref p) e2 s2 r2
    · exact h1.elim⟩
/-! tests -/
theorem pt3_val (h : PE X a (tE Z ea W)) (he : ∀ whole, isTrue a X.env whole = (do let v ← whole; standAt a.pos; holding [v] (truthy v)) := by intro _; rfl) : PT X a (tT Z (tB3 ea) W) :=
  (pt_val h he).imp fun σ H Q ⟨m, g, ρ, s, r, h⟩ => ⟨m, g, ρ, s, r, Post.bind h fun m1 H1 d v g1 e1 s1 r1 h1 => by
    split at h1
    · rename_i b
      exact ⟨b, by simpa [DRep] using r1, Post.here (d := b) h1 s1 rfl⟩
    · exact h1.elim⟩
theorem pw3_and1 (ha : PT X a (tT Z ta W)) : PW X (.BoolOp .And [a] pos) (tT Z ta W) := pw_and1 ha
theorem pw3_or1 (ha : PT X a (tT Z ta W)) : PW X (.BoolOp .Or [a] pos) (tT Z ta W) := pw_or1 ha
theorem pw3_and {rest : List Expr} (ha : PT X a (tT Z ta W)) (hb : PW X (.BoolOp .And (b :: rest) pos) (tT Z tb W)) : PW X (.BoolOp .And (a :: b :: rest) pos) (tT Z (tAnd3 ta tb) W) :=
  (pw_and ha hb).imp fun σ H Q ⟨m, g, ρ, s, r, h⟩ => ⟨m, g, ρ, s, r, Post.bind h fun m1 H1 c v g1 e1 s1 r1 h1 => by
    cases r1
    cases c with
    | true => rw [if_pos rfl] at h1 ⊢; exact ⟨m1, g1, ρ, s1, r.mono e1, h1⟩
    | false => rw [if_neg Bool.false_ne_true] at h1 ⊢; exact Post.here (d := false) h1 s1 rfl⟩
theorem pw3_or {rest : List Expr} (ha : PT X a (tT Z ta W)) (hb : PW X (.BoolOp .Or (b :: rest) pos) (tT Z tb W)) : PW X (.BoolOp .Or (a :: b :: rest) pos) (tT Z (tOr3 ta tb) W) :=
  (pw_or ha hb).imp fun σ H Q ⟨m, g, ρ, s, r, h⟩ => ⟨m, g, ρ, s, r, Post.bind h fun m1 H1 c v g1 e1 s1 r1 h1 => by
    cases r1
    cases c with
    | true => rw [if_pos rfl] at h1 ⊢; exact Post.here (d := true) h1 s1 rfl
    | false => rw [if_neg Bool.false_ne_true] at h1 ⊢; exact ⟨m1, g1, ρ, s1, r.mono e1, h1⟩⟩
theorem pt3_not (ha : PT X a (tT Z ta W)) : PT X (.UnaryOp .Not a pos) (tT Z (tNot3 ta) W) :=
  (pt_not ha).imp fun σ H Q ⟨m, g, ρ, s, r, h⟩ => ⟨m, g, ρ, s, r, Post.bind h fun m1 H1 c v g1 e1 s1 r1 h1 => by
    cases r1
    exact Post.here (d := !c) h1 s1 rfl⟩
theorem pe3_one {op} (ha : PE X a (tE Z ea W)) : PE X (.BoolOp op [a] pos) (tE Z ea W) := pe_one ha
theorem pe3_and {rest : List Expr} (ha : PE X a (tE Z ea W)) (hb : PE X (.BoolOp .And (b :: rest) pos) (tE Z eb W)) : PE X (.BoolOp .And (a :: b :: rest) pos) (tE Z (eAnd ea eb) W) :=
  (pe_and ha hb).imp fun σ H Q ⟨m, g, ρ, s, r, h⟩ => ⟨m, g, ρ, s, r, Post.bind h fun m1 H1 d v g1 e1 s1 r1 h1 => by
    split at h1
    · refine ⟨true, by simpa [DRep] using r1, ?_⟩
      rw [if_pos rfl]
      exact ⟨m1, g1, ρ, s1, r.mono e1, h1⟩
    · refine ⟨false, by simpa [DRep] using r1, ?_⟩
      rw [if_neg Bool.false_ne_true]
      exact Post.here (d := D.bl false) h1 s1 (by simp [DRep])
    · exact h1.elim⟩
theorem pe3_or {rest : List Expr} (ha : PE X a (tE Z ea W)) (hb : PE X (.BoolOp .Or (b :: rest) pos) (tE Z eb W)) : PE X (.BoolOp .Or (a :: b :: rest) pos) (tE Z (eOr ea eb) W) :=
  (pe_or ha hb).imp fun σ H Q ⟨m, g, ρ, s, r, h⟩ => ⟨m, g, ρ, s, r, Post.bind h fun m1 H1 d v g1 e1 s1 r1 h1 => by
    split at h1
    · refine ⟨false, by simpa [DRep] using r1, ?_⟩
      rw [if_neg Bool.false_ne_true]
      exact ⟨m1, g1, ρ, s1, r.mono e1, h1⟩
    · refine ⟨true, by simpa [DRep] using r1, ?_⟩
      rw [if_pos rfl]
      exact Post.here (d := D.bl true) h1 s1 (by simp [DRep])
    · exact h1.elim⟩
theorem pe3_not (ha : PE X a (tE Z ea W)) : PE X (.UnaryOp .Not a pos) (tE Z (eNot ea) W) :=
  (L2.pe_not ha).imp fun σ H Q ⟨m, g, ρ, s, r, h⟩ => ⟨m, g, ρ, s, r, Post.bind h fun m1 H1 d v g1 e1 s1 r1 h1 => by
    split at h1
    · rename_i b
      exact ⟨b, by simpa [DRep] using r1, Post.here (d := D.bl !b) h1 s1 (by simp [DRep])⟩
    · exact h1.elim⟩
theorem pe3_if (ht : PT X c (tT Z ta W)) (ha : PE X a (tE Z ea W)) (hb : PE X b (tE Z eb W)) : PE X (.IfExp c a b pos) (tE Z (eIf ta ea eb) W) :=
  (pe_ifExp ht ha hb).imp fun σ H Q ⟨m, g, ρ, s, r, h⟩ => ⟨m, g, ρ, s, r, Post.bind h fun m1 H1 k v g1 e1 s1 r1 h1 => by
    cases r1
    cases k with
    | true => rw [if_pos rfl] at h1 ⊢; exact ⟨m1, g1, ρ, s1, r.mono e1, h1⟩
    | false => rw [if_neg Bool.false_ne_true] at h1 ⊢; exact ⟨m1, g1, ρ, s1, r.mono e1, h1⟩⟩
/-! calls -/
/-- the promise of a def that computes f -/
def spOf (Z : Row) (n : Nat) (f : List D → GH → Res D) : Sp := fun vs H Q E => vs.length = n ∧ ∃ m g ds, S Z.K Z.T m g H ∧ DReps Z.K m H ds vs ∧
  Post Z.K Z.T (RD Z) (f ds g) m H Q fun e m' H' => ∀ cls d, ERep Z.ec Z.K m' H' e cls d → E cls d H'
theorem pe3_call {k n : Nat} {f : Addr} {fd : FuncData} {ps : List Str} {F : List D → GH → Res D} {x : Str} {p : Pos} {e : Expr} (G : FnOk X.prog X.w X.K X.mg X.base (L2.CX X.prog X.w) k f fd ps (spOf Z n F)) (hr : Room k X.A) (hg : Gl X x)
    (hm : X.mg x = some (.ref f)) (hk : PySem.W.keepIn X.K (.ref f) = true) (hb : Binds X.K fd ps []) (tk : Takes X W) (ha : PA X (e :: es) (tA3 Z as W)) (hn : (e :: es).length = n)
    (hlen : ∀ ρ g ds g', as ρ g = .ok ds g' → ds.length = n) (hdb : (x == ("__debug__" : Str)) = false := by decide) (he : starEach (e :: es) X.env = (false, eval e X.env) :: starEach es X.env := by rfl)
    (hpl : (backTo pos (starEach es X.env)).any (·.1) = false := by rfl) : PE X (.Call (.Name x p) (e :: es) [] pos) (tE Z (eCall F as) W) :=
  (pe_callS (E := WE W) G hr hg hm hk hb (fun σ => passAt tk σ) ha hdb he hpl).imp fun σ H Q ⟨m, g, ρ, s, r, h⟩ => by
    refine ⟨m, g, ρ, s, r, ?_⟩
    have h' : Post Z.K Z.T (RD Z) ((as ρ g).bind F) m H Q (WofX Z W σ) := h
    cases e1 : as ρ g with
    | bad => rw [e1] at h'; exact h'
    | er x g1 => rw [e1] at h'; exact h'
    | ok ds g1 =>
      rw [e1] at h'
      intro m1 H1 vs x1 s1 r1
      exact ⟨by rw [← DReps.length r1]; exact hlen ρ g ds g1 e1, m1, g1, ds, s1, r1, Post.ext (r := F ds g1) h' x1⟩
theorem pe3_bi {id : String} {f : FN} {x : Str} {p : Pos} {e : Expr} (hc : CallR X (.builtin id) (rN Z f)) (hg : Gl X x) (hm : X.mg x = none) (hv : bootBuiltins x = some (.builtin id)) (ha : PA X (e :: es) (tA3 Z as W)) (hn : x ≠ "__name__" := by decide)
    (hdb : (x == ("__debug__" : Str)) = false := by decide) (he : starEach (e :: es) X.env = (false, eval e X.env) :: starEach es X.env := by rfl) (hpl : (backTo pos (starEach es X.env)).any (·.1) = false := by rfl) : PE X (.Call (.Name x p) (e :: es) [] pos) (tE Z (eBi f as) W) :=
  (pe_callB hc hg hm hv ha hn hdb he hpl).imp fun σ H Q ⟨m, g, ρ, s, r, h⟩ => ⟨m, g, ρ, s, r, Post.bind h fun m1 H1 ds vs g1 e1 s1 r1 h1 => ⟨m1, g1, ds, s1, r1, h1.lift⟩⟩
theorem pe3_ty {id : String} {f : FN} {x : Str} {p : Pos} {e : Expr} (hc : CallR X (.type id) (rN Z f)) (hg : Gl X x) (hm : X.mg x = none) (hv : bootBuiltins x = some (.type id)) (ha : PA X (e :: es) (tA3 Z as W)) (hn : x ≠ "__name__" := by decide)
    (hdb : (x == ("__debug__" : Str)) = false := by decide) (he : starEach (e :: es) X.env = (false, eval e X.env) :: starEach es X.env := by rfl) (hpl : (backTo pos (starEach es X.env)).any (·.1) = false := by rfl) : PE X (.Call (.Name x p) (e :: es) [] pos) (tE Z (eBi f as) W) :=
  (pe_callTy hc hg hm hv ha hn hdb he hpl).imp fun σ H Q ⟨m, g, ρ, s, r, h⟩ => ⟨m, g, ρ, s, r, Post.bind h fun m1 H1 ds vs g1 e1 s1 r1 h1 => ⟨m1, g1, ds, s1, r1, h1.lift⟩⟩
theorem chain_read {f f' : F2} {σ : L2.St} {H : Hp} {Q : VK} : tE Z (eChain f f' ea eb ecc) W σ H Q → tChain (r2 Z f) (r2 Z f') (tE Z ea W) (tE Z eb W) (tE Z ecc W) σ H Q := fun ⟨m, g, ρ, s, r, h⟩ => two (f := fun x y g2 => (liftO (f x y g2)).bind fun k g3 => match k with
    | .bl true => (ecc ρ g3).bind fun z g4 => liftO (f' y z g4)
    | .bl false => .ok (.bl false) g3
    | _ => .bad) s r h fun m2 H2 d e v u g2 _ s2 rv ru rr h2 => by
      refine ⟨m2, g2, d, e, s2, rv, ru, ?_⟩
      cases e3 : f d e g2 with
      | none => rw [e3] at h2; exact h2
      | some p =>
        rw [e3] at h2
        intro m3 H3 w x3 s3 r3
        have h' : Post Z.K Z.T (RD Z) (match p.1 with | .bl true => (ecc ρ p.2).bind fun z g4 => liftO (f' e z g4) | .bl false => .ok (.bl false) p.2 | _ => .bad) m3 H3 Q (WofX Z W σ) := Post.ext h2 x3
        split at h'
        · rename_i eb
          rw [eb] at r3
          refine ⟨true, by simpa [DRep] using r3, ?_⟩
          rw [if_pos rfl]
          exact ⟨m3, p.2, ρ, s3, rr.mono x3, Post.bind h' fun m4 H4 z zz g4 e4 s4 r4 h4 => ⟨m4, g4, e, z, s4, (ru.mono x3).mono e4, r4, h4.lift⟩⟩
        · rename_i eb
          rw [eb] at r3
          refine ⟨false, by simpa [DRep] using r3, ?_⟩
          rw [if_neg Bool.false_ne_true]
          exact Post.here (d := D.bl false) h' s3 (by simp [DRep])
        · exact h'.elim
theorem pe3_chain {op op' : CmpOp} {f f' : F2} (ho : OpR X (compareOp op) (r2 Z f)) (ho' : OpR X (compareOp op') (r2 Z f')) (ha : PE X a (tE Z ea W)) (hb : PE X b (tE Z eb W)) (hc : PE X c (tE Z ecc W))
    (hm : lastMarks [op, op'] [b, c] = false := by with_unfolding_all rfl) : PE X (.Compare a [op, op'] [b, c] pos) (tE Z (eChain f f' ea eb ecc) W) :=
  (pe_chain ho ho' ha hb hc hm).imp fun _ _ _ h => chain_read h
/-- two comparisons as a test -/
theorem pt3_chain {op op' : CmpOp} {f f' : F2} (ho : OpR X (compareOp op) (r2 Z f)) (ho' : OpR X (compareOp op') (r2 Z f')) (ha : PE X a (tE Z ea W)) (hb : PE X b (tE Z eb W)) (hc : PE X c (tE Z ecc W))
    (hm : lastMarks [op, op'] [b, c] = false := by with_unfolding_all rfl) : PT X (.Compare a [op, op'] [b, c] pos) (tT Z (tB3 (eChain f f' ea eb ecc)) W) :=
  PT.imp (pt_chain ho ho' ha hb hc hm) fun σ H Q ⟨m, g, ρ, s, r, h⟩ => chain_read ⟨m, g, ρ, s, r, Post.bind h fun m1 H1 d v g1 e1 s1 r1 h1 => by
    split at h1
    · rename_i k
      exact ⟨k, by simpa [DRep] using r1, Post.here (d := k) h1 s1 rfl⟩
    · exact h1.elim⟩
end
end L3

/-! L3c: operators, subscripts, built-ins. -/
namespace L3
open PySem PySem.Spec PyProof.Rows L2

/-! ### data -/
def toPy (g : GH) : Nat → D → Option PyData
  | 0, _ => none
  | n + 1, d => match d with
    | .non => some .none
    | .bl b => some (.bool b)
    | .int i => some (.int i)
    | .str s => if PyData.strOk s then some (.str s) else none
    | .tup ds => (ds.mapM (toPy g n)).map .tuple
    | .rol ds => (ds.mapM (toPy g n)).map .list
    | .ref i => match g[i]? with
      | some (.lst ds) => (ds.mapM (toPy g n)).map .list
      | _ => none
section
variable {K : KW} {T : List (Addr × Str)} {m : List Addr} {H : Hp} {g : GH}
theorem dps (s : S K T m g H) {n : Nat} (ih : ∀ (d : D) (v : V) (p : PyData), DRep K m H d v → toPy g n d = some p → Dp K.K H v p) :
    ∀ (ds : List D) (vs : List V) (ps : List PyData), DReps K m H ds vs → ds.mapM (toPy g n) = some ps → DpAll K.K H vs ps
  | [], vs, ps, r, h => by
    rw [DReps] at r
    subst r
    have : ps = [] := by simpa using h.symm
    subst this
    exact .nil
  | d :: ds, vs, ps, r, h => by
    rw [DReps] at r
    obtain ⟨v, vs', rfl, h1, h2⟩ := r
    rw [List.mapM_cons] at h
    cases e1 : toPy g n d with
    | none => rw [e1] at h; cases h
    | some p =>
      cases e2 : ds.mapM (toPy g n) with
      | none => rw [e1, e2] at h; cases h
      | some qs =>
        rw [e1, e2] at h
        have : ps = p :: qs := by simpa using h.symm
        subst this
        exact .cons (ih d v p h1 e1) (dps s ih ds vs' qs h2 e2)
theorem dp_of (s : S K T m g H) : ∀ (n : Nat) (d : D) (v : V) (p : PyData), DRep K m H d v → toPy g n d = some p → Dp K.K H v p
  | 0, _, _, _, _, h => by cases h
  | n + 1, d, v, p, r, h => by
    have ih := dp_of s n
    unfold toPy at h
    cases d with
    | non => simp [DRep] at r h; subst r; subst h; exact .non
    | bl b => simp [DRep] at r h; subst r; subst h; exact .bl b
    | int b => simp [DRep] at r h; subst r; subst h; exact .int b
    | str b => simp [DRep] at r h; obtain ⟨_, h⟩ := h; subst r; subst h; exact .str b
    | tup ds =>
      rw [DRep] at r
      obtain ⟨a, xs, rfl, h1, h2⟩ := r
      simp only [Option.map_eq_some_iff] at h
      obtain ⟨ps, h3, rfl⟩ := h
      exact .tup h1 (dps s ih ds xs ps h2 h3)
    | rol ds =>
      rw [DRep] at r
      obtain ⟨a, xs, rfl, h1, h2⟩ := r
      simp only [Option.map_eq_some_iff] at h
      obtain ⟨ps, h3, rfl⟩ := h
      exact .lst h1.sql (dps s ih ds xs ps h2 h3)
    | ref i =>
      rw [DRep] at r
      obtain ⟨a, rfl, h1⟩ := r
      obtain ⟨o, h2, h3⟩ := s.at h1
      simp only [h2] at h
      cases o with
      | lst ds =>
        obtain ⟨xs, h4, h5⟩ := h3
        simp only [Option.map_eq_some_iff] at h
        obtain ⟨ps, h6, rfl⟩ := h
        exact .lst (SqL.of h4) (dps s ih ds xs ps h5 h6)
      | iset _ => cases h
      | dct _ => cases h
theorem shaped_alls {g : GH} {n : Nat} (ih : ∀ (d : D) (p : PyData), toPy g n d = some p → p.canLay0 = true ∧ p.depth ≤ n) :
    ∀ (ds : List D) (ps : List PyData), ds.mapM (toPy g n) = some ps → PyData.canLayAll0 ps = true ∧ PyData.depthAll ps ≤ n
  | [], ps, h => by
    have : ps = [] := by simpa using h.symm
    subst this
    simp [PyData.canLayAll0, PyData.depthAll]
  | d :: ds, ps, h => by
    rw [List.mapM_cons] at h
    cases e1 : toPy g n d with
    | none => rw [e1] at h; cases h
    | some p =>
      cases e2 : ds.mapM (toPy g n) with
      | none => rw [e1, e2] at h; cases h
      | some qs =>
        rw [e1, e2] at h
        have : ps = p :: qs := by simpa using h.symm
        subst this
        obtain ⟨a1, a2⟩ := ih d p e1
        obtain ⟨b1, b2⟩ := shaped_alls ih ds qs e2
        simp only [PyData.canLayAll0, PyData.depthAll, a1, b1, Bool.and_self, true_and]
        omega
theorem shaped_to {g : GH} : ∀ (n : Nat) (d : D) (p : PyData), toPy g n d = some p → p.canLay0 = true ∧ p.depth ≤ n
  | 0, _, _, h => by cases h
  | n + 1, d, p, h => by
    have ih := shaped_to (g := g) n
    unfold toPy at h
    cases d with
    | non => simp at h; subst h; simp [PyData.canLay0, PyData.depth]
    | bl b => simp at h; subst h; simp [PyData.canLay0, PyData.depth]
    | int b => simp at h; subst h; simp [PyData.canLay0, PyData.depth]
    | str b => simp at h; obtain ⟨h0, h⟩ := h; subst h; simp [PyData.canLay0, PyData.depth, h0]
    | tup ds =>
      simp only [Option.map_eq_some_iff] at h
      obtain ⟨ps, h3, rfl⟩ := h
      obtain ⟨a, b⟩ := shaped_alls ih ds ps h3
      simp only [PyData.canLay0, PyData.depth, a, true_and]
      omega
    | rol ds =>
      simp only [Option.map_eq_some_iff] at h
      obtain ⟨ps, h3, rfl⟩ := h
      obtain ⟨a, b⟩ := shaped_alls ih ds ps h3
      simp only [PyData.canLay0, PyData.depth, a, true_and]
      omega
    | ref i =>
      simp only at h
      split at h
      · simp only [Option.map_eq_some_iff] at h
        obtain ⟨ps, h3, rfl⟩ := h
        obtain ⟨a, b⟩ := shaped_alls ih _ ps h3
        simp only [PyData.canLay0, PyData.depth, a, true_and]
        omega
      · cases h
theorem shaped_py {g : GH} {n : Nat} {d : D} {p : PyData} (hn : n ≤ 64) (h : toPy g n d = some p) : SeqAt.shaped p = true := by
  obtain ⟨a, b⟩ := shaped_to n d p h
  unfold SeqAt.shaped
  rw [a, Bool.true_and]
  exact decide_eq_true (Nat.le_trans b hn)
end

/-! ### operators -/
def opAdd : F2 := fun d e g => match d, e with
  | .int i, .int j => some (.int (i + j), g)
  | .str a, .str b => if a.length + b.length ≤ 16777216 then some (.str (a ++ b), g) else none
  | .tup a, .tup b => if a.length + b.length ≤ 16777216 then some (.tup (a ++ b), g) else none
  | .ref i, .ref j => match g[i]?, g[j]? with
    | some (.lst a), some (.lst b) => if a.length + b.length ≤ 16777216 then some (.ref g.length, g ++ [.lst (a ++ b)]) else none
    | _, _ => none
  | _, _ => none
def opSub : F2 := fun d e g => match d, e with
  | .int i, .int j => some (.int (i - j), g)
  | _, _ => none
def opMul : F2 := fun d e g => match d, e with
  | .int i, .int j => if i.natAbs.log2 + j.natAbs.log2 < 1000000 then some (.int (i * j), g) else none
  | .tup a, .int k => if a.length ≠ 0 ∧ 2 ≤ k ∧ k ≤ 1000 ∧ a.length ≤ 1000 then some (.tup (List.replicate k.toNat a).flatten, g) else none
  | .ref i, .int k => match g[i]? with
    | some (.lst a) => if 0 ≤ k ∧ k ≤ 1000000 ∧ a.length * k.toNat ≤ 16777216 then some (.ref g.length, g ++ [.lst (List.replicate k.toNat a).flatten]) else none
    | _ => none
  | _, _ => none
def opDiv : F2 := fun d e g => match d, e with
  | .int i, .int j => if 0 < j ∧ j.natAbs.log2 < 9000 then some (.int (i / j), g) else none
  | _, _ => none
def opMod : F2 := fun d e g => match d, e with
  | .int i, .int j => if 0 < j then some (.int (i % j), g) else none
  | _, _ => none
def opPow : F2 := fun d e g => match d, e with
  | .int i, .int j => if 0 ≤ j ∧ j ≤ 1000000 ∧ i.natAbs < 18446744073709551616 then some (.int (i ^ j.toNat), g) else none
  | _, _ => none
def opNeg : F1 := fun d g => match d with
  | .int i => some (.int (-i), g)
  | _ => none
def opEq : F2 := fun d e g => match toPy g 16 d, toPy g 16 e with
  | some p, some q => some (.bl (PyData.eqv p q), g)
  | _, _ => none
def opNe : F2 := fun d e g => match toPy g 16 d, toPy g 16 e with
  | some p, some q => some (.bl (!PyData.eqv p q), g)
  | _, _ => none
def opLt : F2 := fun d e g => match d, e with
  | .int i, .int j => some (.bl (decide (i < j)), g)
  | .tup a, .tup b => match toPy g 16 (.tup a), toPy g 16 (.tup b) with
    | some p, some q => if PySem.W.alike p q then some (.bl (PySem.W.dataLt p q), g) else none
    | _, _ => none
  | _, _ => none
def opLe : F2 := fun d e g => match d, e with
  | .int i, .int j => some (.bl (decide (i ≤ j)), g)
  | _, _ => none
def opGt : F2 := fun d e g => match d, e with
  | .int i, .int j => some (.bl (decide (j < i)), g)
  | _, _ => none
def opGe : F2 := fun d e g => match d, e with
  | .int i, .int j => some (.bl (decide (j ≤ i)), g)
  | _, _ => none
def opIs : F2 := fun d e g => match d, e with
  | .bl a, .bl b => some (.bl (decide (a = b)), g)
  | .non, .non => some (.bl true, g)
  | _, .non => some (.bl false, g)
  | _, _ => none
def opIsNot : F2 := fun d e g => match d, e with
  | .bl a, .bl b => some (.bl (!decide (a = b)), g)
  | .non, .non => some (.bl false, g)
  | _, .non => some (.bl true, g)
  | _, _ => none
def itemsOf (g : GH) (e : D) : Option (List PyData) := match toPy g 17 e with
  | some (.list qs) => some qs
  | some (.tuple qs) => some qs
  | _ => none
def opIn : F2 := fun d e g => match toPy g 16 d, itemsOf g e with
  | some p, some qs => some (.bl (qs.any fun z => PyData.eqv z p), g)
  | _, _ => none
def opNotIn : F2 := fun d e g => match toPy g 16 d, itemsOf g e with
  | some p, some qs => some (.bl (!qs.any fun z => PyData.eqv z p), g)
  | _, _ => none

section
variable {X : Cx} {Z : Row}
theorem D.str_inv {K : KW} {m : List Addr} {H : Hp} {i : Str} {v : V} (h : DRep K m H (.str i) v) : v = .str i := by simpa [DRep] using h
theorem D.int_inv {K : KW} {m : List Addr} {H : Hp} {i : Int} {v : V} (h : DRep K m H (.int i) v) : v = .int i := by simpa [DRep] using h
theorem D.bl_inv {K : KW} {m : List Addr} {H : Hp} {i : Bool} {v : V} (h : DRep K m H (.bl i) v) : v = .bl i := by simpa [DRep] using h
theorem D.non_inv {K : KW} {m : List Addr} {H : Hp} {v : V} (h : DRep K m H .non v) : v = .non := by simpa [DRep] using h
theorem D.mk_int {K : KW} {m : List Addr} {H : Hp} {i : Int} : DRep K m H (.int i) (.int i) := by simp [DRep]
theorem D.mk_str {K : KW} {m : List Addr} {H : Hp} {i : Str} : DRep K m H (.str i) (.str i) := by simp [DRep]
theorem D.mk_bl {K : KW} {m : List Addr} {H : Hp} {i : Bool} : DRep K m H (.bl i) (.bl i) := by simp [DRep]
theorem D.mk_non {K : KW} {m : List Addr} {H : Hp} : DRep K m H .non .non := by simp [DRep]
theorem tup_new {m : List Addr} {g : GH} {H : Hp} {ds : List D} {vs : List V} {p : Addr} {K : KW} {T : List (Addr × Str)} (s : S K T m g H) (r : DReps K m H ds vs) (hp : H p = none) :
    Ext m H m (upd H p (.tup vs)) ∧ S K T m g (upd H p (.tup vs)) ∧ DRep K m (upd H p (.tup vs)) (.tup ds) (.ref p) := by
  obtain ⟨e, s2⟩ := s.laid (u := .tup vs) hp
  refine ⟨e, s2, ?_⟩
  rw [DRep]
  exact ⟨p, vs, rfl, SqT.of upd_same, DReps.mono e _ _ r⟩
theorem DReps.nil_iff {K : KW} {m : List Addr} {H : Hp} {ds : List D} {vs : List V} (h : DReps K m H ds vs) : vs = [] ↔ ds = [] := by
  have := h.length
  constructor
  · intro e; subst e; simpa using this
  · intro e; subst e; simpa using this.symm
theorem DReps.flat {K : KW} {m : List Addr} {H : Hp} {ds : List D} {vs : List V} (h : DReps K m H ds vs) : ∀ n : Nat, DReps K m H (List.replicate n ds).flatten (List.replicate n vs).flatten
  | 0 => by simp [DReps]
  | n + 1 => by
    rw [List.replicate_succ, List.replicate_succ, List.flatten_cons, List.flatten_cons]
    exact h.append (h.flat n)
theorem o_add (hK : Z.K = X.kw) : OpR X (binaryOp .Add) (r2 Z opAdd) := by
  obtain ⟨K, T, ec⟩ := Z
  obtain rfl : K = X.kw := hK
  intro pins st σ H x y v u Q I rx ry ⟨m, g, d, e, s, hd, he, h⟩
  unfold opAdd at h
  split at h
  · cases D.int_inv hd; cases D.int_inv he
    exact op_add pins st σ H _ _ v u Q I rx ry ⟨_, _, rfl, rfl, h.here s D.mk_int⟩
  · cases D.str_inv hd; cases D.str_inv he
    split at h
    · rename_i hl
      exact op_add_str pins st σ H _ _ v u Q I rx ry ⟨_, _, rfl, rfl, by rw [sizeLine_eq]; exact hl, h.here s D.mk_str⟩
    · exact h.elim
  · split at h
    · rename_i a b hl
      rw [DRep] at hd he
      obtain ⟨p, xs, rfl, h1, h2⟩ := hd
      obtain ⟨q, ys, rfl, h3, h4⟩ := he
      refine op_catA pins st σ H _ _ v u Q I rx ry ⟨p, q, xs, ys, rfl, rfl, h1, h3, by rw [← h2.length, ← h4.length, sizeLine_eq]; exact hl, fun e => ?_, fun _ e => ?_, fun _ _ p hp => ?_⟩
      · have := h2.nil_iff.mp e
        subst this
        exact Post.here (d := D.tup b) h s (by show DRep _ _ _ (.tup b) _; rw [DRep]; exact ⟨q, ys, rfl, h3, h4⟩)
      · have := h4.nil_iff.mp e
        subst this
        exact Post.here (d := D.tup (a ++ [])) h s (by show DRep _ _ _ (.tup (a ++ [])) _; rw [List.append_nil, DRep]; exact ⟨_, xs, rfl, h1, h2⟩)
      · obtain ⟨e1, s1, r1⟩ := tup_new s (h2.append h4) hp
        exact h m _ (.ref p) e1 s1 r1
    · exact h.elim
  · rw [DRep] at hd he
    obtain ⟨p, rfl, h1⟩ := hd
    obtain ⟨q, rfl, h3⟩ := he
    split at h
    · rename_i a b e1 e2
      split at h
      · rename_i hl
        obtain ⟨o, h4, h5⟩ := s.at h1
        rw [e1] at h4; cases h4
        obtain ⟨o, h6, h7⟩ := s.at h3
        rw [e2] at h6; cases h6
        obtain ⟨xs, h8, h9⟩ := h5
        obtain ⟨ys, h10, h11⟩ := h7
        refine op_cat pins st σ H _ _ v u Q I rx ry ⟨p, q, xs, ys, rfl, rfl, h8, h10, by rw [← h9.length, ← h11.length, sizeLine_eq]; exact hl, fun p hp => ?_⟩
        obtain ⟨e1, s1, r1⟩ := lst_new s (h9.append h11) hp
        exact h _ _ (.ref p) e1 s1 r1
      · exact h.elim
    · exact h.elim
  · exact h.elim
theorem o_sub : OpR X (binaryOp .Sub) (r2 Z opSub) := by
  intro pins st σ H x y v u Q I rx ry ⟨m, g, d, e, s, hd, he, h⟩
  unfold opSub at h
  split at h
  · cases D.int_inv hd; cases D.int_inv he
    exact op_sub pins st σ H _ _ v u Q I rx ry ⟨_, _, rfl, rfl, h.here s D.mk_int⟩
  · exact h.elim
theorem o_mul (hK : Z.K = X.kw) : OpR X (binaryOp .Mult) (r2 Z opMul) := by
  obtain ⟨K, T, ec⟩ := Z
  obtain rfl : K = X.kw := hK
  intro pins st σ H x y v u Q I rx ry ⟨m, g, d, e, s, hd, he, h⟩
  unfold opMul at h
  split at h
  · cases D.int_inv hd; cases D.int_inv he
    split at h
    · rename_i hl
      exact op_mulW pins st σ H _ _ v u Q I rx ry ⟨_, _, rfl, rfl, hl, h.here s D.mk_int⟩
    · exact h.elim
  · cases D.int_inv he
    split at h
    · rename_i hl
      obtain ⟨l1, l2, l3, l4⟩ := hl
      rw [DRep] at hd
      obtain ⟨p, xs, rfl, h1, h2⟩ := hd
      refine op_repT pins st σ H _ _ v u Q I rx ry ⟨p, _, xs, rfl, rfl, h1, fun z => l1 (by have := h2.nil_iff.mp z; subst this; rfl), l2, l3, by rw [← h2.length]; exact l4, fun p hp => ?_⟩
      obtain ⟨e1, s1, r1⟩ := tup_new s (h2.flat _) hp
      exact h m _ (.ref p) e1 s1 r1
    · exact h.elim
  · cases D.int_inv he
    rw [DRep] at hd
    obtain ⟨p, rfl, h1⟩ := hd
    split at h
    · rename_i a e1
      split at h
      · rename_i hl
        obtain ⟨l1, l2, l3⟩ := hl
        obtain ⟨o, h4, h5⟩ := s.at h1
        rw [e1] at h4; cases h4
        obtain ⟨xs, h8, h9⟩ := h5
        refine op_rep pins st σ H _ _ v u Q I rx ry ⟨p, _, xs, rfl, rfl, h8, by omega, by omega, by rw [← h9.length, sizeLine_eq]; exact l3, fun p hp => ?_⟩
        obtain ⟨e1, s1, r1⟩ := lst_new s (h9.flat _) hp
        exact h _ _ (.ref p) e1 s1 r1
      · exact h.elim
    · exact h.elim
  · exact h.elim
theorem o_div : OpR X (binaryOp .FloorDiv) (r2 Z opDiv) := by
  intro pins st σ H x y v u Q I rx ry ⟨m, g, d, e, s, hd, he, h⟩
  unfold opDiv at h
  split at h
  · cases D.int_inv hd; cases D.int_inv he
    split at h
    · rename_i hl
      exact op_fdivW pins st σ H _ _ v u Q I rx ry ⟨_, _, rfl, rfl, hl, h.here s D.mk_int⟩
    · exact h.elim
  · exact h.elim
theorem o_mod : OpR X (binaryOp .Mod) (r2 Z opMod) := by
  intro pins st σ H x y v u Q I rx ry ⟨m, g, d, e, s, hd, he, h⟩
  unfold opMod at h
  split at h
  · cases D.int_inv hd; cases D.int_inv he
    split at h
    · rename_i hl
      exact op_mod pins st σ H _ _ v u Q I rx ry ⟨_, _, rfl, rfl, hl, h.here s D.mk_int⟩
    · exact h.elim
  · exact h.elim
theorem o_pow : OpR X (binaryOp .Pow) (r2 Z opPow) := by
  intro pins st σ H x y v u Q I rx ry ⟨m, g, d, e, s, hd, he, h⟩
  unfold opPow at h
  split at h
  · cases D.int_inv hd; cases D.int_inv he
    split at h
    · rename_i hl
      exact op_pow pins st σ H _ _ v u Q I rx ry ⟨_, _, rfl, rfl, ⟨hl.1, hl.2.1, hl.2.2⟩, h.here s D.mk_int⟩
    · exact h.elim
  · exact h.elim
theorem o_neg : UnR X (unaryOp .USub) (r1 Z opNeg) := by
  intro pins st σ H x v Q I rx ⟨m, g, d, s, hd, h⟩
  unfold opNeg at h
  split at h
  · cases D.int_inv hd
    exact un_neg pins st σ H _ v Q I rx ⟨_, rfl, h.here s D.mk_int⟩
  · exact h.elim
theorem o_eq (hK : Z.K = X.kw) (hu : X.A.units + 64 < cLine) : OpR X (compareOp .Eq) (r2 Z opEq) := by
  obtain ⟨K, T, ec⟩ := Z
  obtain rfl : K = X.kw := hK
  intro pins st σ H x y v u Q I rx ry ⟨m, g, d, e, s, hd, he, h⟩
  unfold opEq at h
  split at h
  · rename_i p q e1 e2
    exact op_eqD hu pins st σ H _ _ v u Q I rx ry ⟨p, q, dp_of s 16 d x p hd e1, dp_of s 16 e y q he e2, shaped_py (by decide) e1, shaped_py (by decide) e2, h.here s D.mk_bl⟩
  · exact h.elim
theorem o_ne (hK : Z.K = X.kw) (hu : X.A.units + 64 < cLine) : OpR X (compareOp .NotEq) (r2 Z opNe) := by
  obtain ⟨K, T, ec⟩ := Z
  obtain rfl : K = X.kw := hK
  intro pins st σ H x y v u Q I rx ry ⟨m, g, d, e, s, hd, he, h⟩
  unfold opNe at h
  split at h
  · rename_i p q e1 e2
    exact op_neD hu pins st σ H _ _ v u Q I rx ry ⟨p, q, dp_of s 16 d x p hd e1, dp_of s 16 e y q he e2, shaped_py (by decide) e1, shaped_py (by decide) e2, h.here s D.mk_bl⟩
  · exact h.elim
theorem o_lt (hK : Z.K = X.kw) (hu : X.A.units + 64 < cLine) : OpR X (compareOp .Lt) (r2 Z opLt) := by
  obtain ⟨K, T, ec⟩ := Z
  obtain rfl : K = X.kw := hK
  intro pins st σ H x y v u Q I rx ry ⟨m, g, d, e, s, hd, he, h⟩
  unfold opLt at h
  split at h
  · cases D.int_inv hd; cases D.int_inv he
    exact op_lt pins st σ H _ _ v u Q I rx ry ⟨_, _, rfl, rfl, h.here s D.mk_bl⟩
  · rename_i a b
    split at h
    · rename_i p q e1 e2
      split at h
      · rename_i hl
        obtain ⟨as, r1⟩ := Dp.reads I p x v (dp_of s 16 _ x p hd e1) rx
        obtain ⟨bs, r2⟩ := Dp.reads I q y u (dp_of s 16 _ y q he e2) ry
        have hne : p ≠ .none := fun z => by
          subst z
          unfold toPy at e1
          simp at e1
        have hz := shaped_to 16 _ p e1
        refine PySem.W.rcLt_alike p q X.A st v u as bs r1 r2 hl hne (by
          have h1 : min p.depth q.depth ≤ p.depth := Nat.min_le_left _ _
          have h2 := hz.2
          omega) X.prog X.w _ _ ⟨.bl _, H, I, rfl, h.here s D.mk_bl⟩
      · exact h.elim
    · exact h.elim
  · exact h.elim
theorem o_le : OpR X (compareOp .LtE) (r2 Z opLe) := by
  intro pins st σ H x y v u Q I rx ry ⟨m, g, d, e, s, hd, he, h⟩
  unfold opLe at h
  split at h
  · cases D.int_inv hd; cases D.int_inv he
    exact op_le pins st σ H _ _ v u Q I rx ry ⟨_, _, rfl, rfl, h.here s D.mk_bl⟩
  · exact h.elim
theorem o_gt : OpR X (compareOp .Gt) (r2 Z opGt) := by
  intro pins st σ H x y v u Q I rx ry ⟨m, g, d, e, s, hd, he, h⟩
  unfold opGt at h
  split at h
  · cases D.int_inv hd; cases D.int_inv he
    exact op_gt pins st σ H _ _ v u Q I rx ry ⟨_, _, rfl, rfl, h.here s D.mk_bl⟩
  · exact h.elim
theorem o_ge : OpR X (compareOp .GtE) (r2 Z opGe) := by
  intro pins st σ H x y v u Q I rx ry ⟨m, g, d, e, s, hd, he, h⟩
  unfold opGe at h
  split at h
  · cases D.int_inv hd; cases D.int_inv he
    exact op_ge pins st σ H _ _ v u Q I rx ry ⟨_, _, rfl, rfl, h.here s D.mk_bl⟩
  · exact h.elim
theorem not_non {K : KW} {m : List Addr} {H : Hp} {d : D} {x : V} (hd : DRep K m H d x) (h : d ≠ .non) : x ≠ .non := by
  cases d with
  | non => exact absurd rfl h
  | bl b => cases D.bl_inv hd; simp
  | int b => cases D.int_inv hd; simp
  | str b => cases D.str_inv hd; simp
  | tup ds => rw [DRep] at hd; obtain ⟨_, _, rfl, _⟩ := hd; simp
  | rol ds => rw [DRep] at hd; obtain ⟨_, _, rfl, _⟩ := hd; simp
  | ref i => rw [DRep] at hd; obtain ⟨_, rfl, _⟩ := hd; simp
theorem o_is : OpR X (compareOp .Is) (r2 Z opIs) := by
  intro pins st σ H x y v u Q I rx ry ⟨m, g, d, e, s, hd, he, h⟩
  unfold opIs at h
  split at h
  · cases D.bl_inv hd; cases D.bl_inv he
    exact op_isBl pins st σ H _ _ v u Q I rx ry ⟨_, _, rfl, rfl, h.here s D.mk_bl⟩
  · cases D.non_inv hd; cases D.non_inv he
    exact op_isN pins st σ H _ _ v u Q I rx ry ⟨rfl, h.here s D.mk_bl⟩
  · rename_i hn
    cases D.non_inv he
    refine op_isN pins st σ H _ _ v u Q I rx ry ⟨rfl, ?_⟩
    rw [decide_eq_false (not_non hd (fun z => hn z))]
    exact h.here s D.mk_bl
  · exact h.elim
theorem o_isNot : OpR X (compareOp .IsNot) (r2 Z opIsNot) := by
  intro pins st σ H x y v u Q I rx ry ⟨m, g, d, e, s, hd, he, h⟩
  unfold opIsNot at h
  split at h
  · cases D.bl_inv hd; cases D.bl_inv he
    exact op_notBl pins st σ H _ _ v u Q I rx ry ⟨_, _, rfl, rfl, h.here s D.mk_bl⟩
  · cases D.non_inv hd; cases D.non_inv he
    exact op_notN pins st σ H _ _ v u Q I rx ry ⟨rfl, h.here s D.mk_bl⟩
  · rename_i hn
    cases D.non_inv he
    refine op_notN pins st σ H _ _ v u Q I rx ry ⟨rfl, ?_⟩
    rw [decide_eq_false (not_non hd (fun z => hn z))]
    exact h.here s D.mk_bl
  · exact h.elim
theorem items_cases {g : GH} {e : D} {qs : List PyData} (h : itemsOf g e = some qs) : toPy g 17 e = some (.list qs) ∨ toPy g 17 e = some (.tuple qs) := by
  unfold itemsOf at h
  split at h <;> first | (cases h; first | exact .inl (by assumption) | exact .inr (by assumption)) | cases h
theorem o_in (hK : Z.K = X.kw) (hu : X.A.units + 65 < cLine) : OpR X (compareOp .In) (r2 Z opIn) := by
  obtain ⟨K, T, ec⟩ := Z
  obtain rfl : K = X.kw := hK
  intro pins st σ H x y v u Q I rx ry ⟨m, g, d, e, s, hd, he, h⟩
  unfold opIn at h
  split at h
  · rename_i p qs e1 e2
    have dx := dp_of s 16 d x p hd e1
    rcases items_cases e2 with e2 | e2
    · exact op_inD hu pins st σ H _ _ v u Q I rx ry ⟨p, qs, dx, dp_of s 17 e y _ he e2, shaped_py (by decide) e1, shaped_py (by decide) e2, h.here s D.mk_bl⟩
    · obtain ⟨as, r1⟩ := Dp.reads I p x v dx rx
      obtain ⟨bs, r2⟩ := Dp.reads I _ y u (dp_of s 17 e y _ he e2) ry
      exact SeqAt.in_tuple_reads r2 r1 (SeqAt.canLay_of_shaped (shaped_py (by decide) e2)) (SeqAt.canLay_of_shaped (shaped_py (by decide) e1)) (room_in_shaped (shaped_py (by decide) e1) hu) ⟨.bl _, H, I, rfl, h.here s D.mk_bl⟩
  · exact h.elim
theorem o_notIn (hK : Z.K = X.kw) (hu : X.A.units + 65 < cLine) : OpR X (compareOp .NotIn) (r2 Z opNotIn) := by
  obtain ⟨K, T, ec⟩ := Z
  obtain rfl : K = X.kw := hK
  intro pins st σ H x y v u Q I rx ry ⟨m, g, d, e, s, hd, he, h⟩
  unfold opNotIn at h
  split at h
  · rename_i p qs e1 e2
    have dx := dp_of s 16 d x p hd e1
    rcases items_cases e2 with e2 | e2
    · exact op_notInD hu pins st σ H _ _ v u Q I rx ry ⟨p, qs, dx, dp_of s 17 e y _ he e2, shaped_py (by decide) e1, shaped_py (by decide) e2, h.here s D.mk_bl⟩
    · obtain ⟨as, r1⟩ := Dp.reads I p x v dx rx
      obtain ⟨bs, r2⟩ := Dp.reads I _ y u (dp_of s 17 e y _ he e2) ry
      exact SeqAt.notIn_tuple_reads r2 r1 (SeqAt.canLay_of_shaped (shaped_py (by decide) e2)) (SeqAt.canLay_of_shaped (shaped_py (by decide) e1)) (room_in_shaped (shaped_py (by decide) e1) hu) ⟨.bl _, H, I, rfl, h.here s D.mk_bl⟩
  · exact h.elim
end
end L3

/-! L3d: subscripts, slices, built-ins. -/
namespace L3
open PySem PySem.Spec PyProof.Rows L2

def cutD (xs : List D) (lo hi : Option Int) : List D := (xs.drop (HT.sIx xs.length 0 lo)).take (HT.sIx xs.length xs.length hi - HT.sIx xs.length 0 lo)
def opIx : F2 := fun d e g => match d, e with
  | .tup ds, .int i => (atI ds i).map fun x => (x, g)
  | .rol ds, .int i => (atI ds i).map fun x => (x, g)
  | .ref k, .int i => match g[k]? with
    | some (.lst ds) => (atI ds i).map fun x => (x, g)
    | _ => none
  | .str z, .int i => if z.length ≤ 16777216 then (atI z.cps.toList i).map fun c => (.str ⟨#[c]⟩, g) else none
  | _, _ => none
abbrev OV := Rho → GH → Res (Option Int)
def oNone : OV := fun _ g => .ok none g
def oSome (a : EV) : OV := fun ρ g => (a ρ g).bind fun d g1 => match d with
  | .int i => .ok (some i) g1
  | _ => .bad
def opSl (d : D) (lo hi : Option Int) (g : GH) : Option (D × GH) := match d with
  | .tup ds => some (.tup (cutD ds lo hi), g)
  | .ref k => match g[k]? with
    | some (.lst ds) => some (.ref g.length, g ++ [.lst (cutD ds lo hi)])
    | _ => none
  | .str z => if z.length ≤ 16777216 then some (.str (cutS z lo hi), g) else none
  | _ => none
def eSl (a : EV) (lo hi : OV) : EV := fun ρ g => (a ρ g).bind fun d g1 => (lo ρ g1).bind fun l g2 => (hi ρ g2).bind fun h g3 => liftO (opSl d l h g3)
inductive BT where
  | tint | tbool | ttuple | tlist | tstr
def BT.name : BT → String
  | .tint => "int" | .tbool => "bool" | .ttuple => "tuple" | .tlist => "list" | .tstr => "str"
def isB (t : BT) (d : D) (g : GH) : Option Bool := match d with
  | .non => some false
  | .bl _ => some (match t with | .tint => true | .tbool => true | _ => false)
  | .int _ => some (match t with | .tint => true | _ => false)
  | .str _ => some (match t with | .tstr => true | _ => false)
  | .tup _ => some (match t with | .ttuple => true | _ => false)
  | .rol _ => some (match t with | .tlist => true | _ => false)
  | .ref i => match g[i]? with
    | some (.lst _) => some (match t with | .tlist => true | _ => false)
    | _ => none
def eIsB (t : BT) (a : EV) : EV := fun ρ g => (a ρ g).bind fun d g1 => match isB t d g1 with
  | some b => .ok (.bl b) g1
  | none => .bad
def intsOf : List D → Option (List Int)
  | [] => some []
  | .int i :: ds => (intsOf ds).map fun is => i :: is
  | _ :: _ => none
def blsOf : List D → Option (List Bool)
  | [] => some []
  | .bl i :: ds => (blsOf ds).map fun is => i :: is
  | _ :: _ => none
def minI : List Int → Int
  | [] => 0
  | i :: is => is.foldl (fun a b => if b < a then b else a) i
def maxI : List Int → Int
  | [] => 0
  | i :: is => is.foldl (fun a b => if a < b then b else a) i
/-- the items of a list that is read -/
def lstOf (g : GH) : D → Option (List D)
  | .rol ds => some ds
  | .ref i => match g[i]? with
    | some (.lst ds) => some ds
    | _ => none
  | _ => none
def fLen : FN := fun xs g => match xs with
  | [.tup ds] => some (.int ds.length, g)
  | [.str z] => if z.length ≤ 16777216 then some (.int z.length, g) else none
  | [d] => (lstOf g d).map fun ds => (.int ds.length, g)
  | _ => none
def fAbs : FN := fun xs g => match xs with
  | [.int i] => some (.int (if i < 0 then -i else i), g)
  | _ => none
def fMin : FN := fun xs g => match xs with
  | [.int i, .int j] => some (.int (if j < i then j else i), g)
  | [d] => match (lstOf g d).bind intsOf with
    | some (i :: is) => some (.int (minI (i :: is)), g)
    | _ => none
  | _ => none
def fMax : FN := fun xs g => match xs with
  | [.int i, .int j] => some (.int (if j > i then j else i), g)
  | [d] => match (lstOf g d).bind intsOf with
    | some (i :: is) => some (.int (maxI (i :: is)), g)
    | _ => none
  | _ => none
def fSum : FN := fun xs g => match xs with
  | [d] => match (lstOf g d).bind intsOf with
    | some is => some (.int is.sum, g)
    | none => none
  | _ => none
def fInt : FN := fun xs g => match xs with
  | [.int i] => some (.int i, g)
  | [.bl b] => some (.int (if b then 1 else 0), g)
  | [.str a] => if a.length ≤ 640 then (PySem.intText? a).map fun n => (.int n, g) else none
  | _ => none
def fBool : FN := fun xs g => match xs with
  | [.int i] => some (.bl (i != 0), g)
  | [.bl b] => some (.bl b, g)
  | _ => none
def fStr : FN := fun xs g => match xs with
  | [.int i] => if i.natAbs.log2 < 1920 then some (.str (toString i), g) else none
  | _ => none
def fList : FN := fun xs g => match xs with
  | [.tup ds] => some (.ref g.length, g ++ [.lst ds])
  | [d] => (lstOf g d).map fun ds => (.ref g.length, g ++ [.lst ds])
  | _ => none
def fTuple : FN := fun xs g => match xs with
  | [.tup ds] => some (.tup ds, g)
  | [d] => (lstOf g d).map fun ds => (.tup ds, g)
  | _ => none
def eApp (o a : EV) : EV := fun ρ g => (o ρ g).bind fun d g1 => match lstOf g1 d with
  | some _ => (a ρ g1).bind fun e g2 => match d with
    | .ref i => match g2[i]? with
      | some (.lst ds) => if ds.length < 16777216 then .ok .non (g2.set i (.lst (ds ++ [e]))) else .bad
      | _ => .bad
    | _ => .bad
  | none => .bad
/-- list(range(n)), list(range(a, b)) -/
def rangeD (a b : Int) : List D := (List.range (b - a).toNat).map fun (k : Nat) => .int (a + (k : Int))
def eLstRg1 (a : EV) : EV := fun ρ g => (a ρ g).bind fun d g1 => match d with
  | .int n => if n ≤ 1000000 ∧ -1000000 ≤ n then .ok (.ref g1.length) (g1 ++ [.lst (rangeD 0 n)]) else .bad
  | _ => .bad

section
variable {X : Cx} {Z : Row} {W : WX} {pos : Pos} {a b c : Expr} {ea eb ecc : EV} {es : List Expr} {as : AV}
theorem cut_reps {K : KW} {m : List Addr} {H : Hp} {ds : List D} {vs : List V} (h : DReps K m H ds vs) (lo hi : Option Int) : DReps K m H (cutD ds lo hi) (cutV vs lo hi) := by
  unfold cutD cutV
  rw [h.length]
  exact (h.drop _).take _
theorem atI_reps {K : KW} {m : List Addr} {H : Hp} {ds : List D} {vs : List V} {i : Int} {d : D} (h : DReps K m H ds vs) (e : atI ds i = some d) : ∃ v, atI vs i = some v ∧ DRep K m H d v := by
  unfold atI at e ⊢
  rw [← h.length]
  cases q : ixN ds.length i with
  | none => rw [q] at e; cases e
  | some j =>
    rw [q] at e
    exact h.get e
theorem lst_at {K : KW} {T : List (Addr × Str)} {m : List Addr} {g : GH} {H : Hp} {i : Nat} {ds : List D} {v : V} (s : S K T m g H) (h : DRep K m H (.ref i) v) (e : g[i]? = some (.lst ds)) :
    ∃ p xs, v = .ref p ∧ m[i]? = some p ∧ H p = some (.lst xs) ∧ DReps K m H ds xs := by
  rw [DRep] at h
  obtain ⟨p, rfl, h1⟩ := h
  obtain ⟨o, h2, h3⟩ := s.at h1
  rw [e] at h2; cases h2
  obtain ⟨xs, h4, h5⟩ := h3
  exact ⟨p, xs, rfl, h1, h4, h5⟩
theorem lstOf_at {K : KW} {T : List (Addr × Str)} {m : List Addr} {g : GH} {H : Hp} {d : D} {ds : List D} {v : V} (s : S K T m g H) (h : DRep K m H d v) (e : lstOf g d = some ds) :
    ∃ p xs, v = .ref p ∧ SqL K.K H p xs ∧ DReps K m H ds xs := by
  unfold lstOf at e
  cases d with
  | rol es =>
    simp at e
    subst e
    rw [DRep] at h
    obtain ⟨p, xs, rfl, h1, h2⟩ := h
    exact ⟨p, xs, rfl, h1.sql, h2⟩
  | ref i =>
    simp only at e
    split at e
    · rename_i es e1
      cases e
      obtain ⟨p, xs, rfl, _, h2, h3⟩ := lst_at s h e1
      exact ⟨p, xs, rfl, SqL.of h2, h3⟩
    · cases e
  | _ => cases e
theorem ix_tup_l {K : KW} {m : List Addr} {H : Hp} {ds : List D} {v : V} (h : DRep K m H (.tup ds) v) : ∃ p xs, v = .ref p ∧ SqT K.K H p xs ∧ DReps K m H ds xs := by
  rw [DRep] at h
  exact h
theorem o_ix (hK : Z.K = X.kw) : IxR X (r2 Z opIx) := by
  obtain ⟨K, T, ec⟩ := Z
  obtain rfl : K = X.kw := hK
  intro value slice pins st σ H x y v u Q I rx ry ⟨m, g, d, e, s, hd, he, h⟩ hs
  unfold opIx at h
  split at h
  · cases D.int_inv he
    obtain ⟨p, xs, rfl, h1, h2⟩ := ix_tup_l hd
    cases q : atI _ _ with
    | none => rw [q] at h; exact h.elim
    | some z =>
      rw [q] at h
      obtain ⟨w, e1, e2⟩ := atI_reps h2 q
      exact ix_tup value slice pins st σ H _ _ v u Q I rx ry ⟨p, xs, _, w, rfl, rfl, h1, e1, Post.here (d := z) h s e2⟩ hs
  · cases D.int_inv he
    obtain ⟨p, xs, rfl, h1, h2⟩ := lstOf_at (g := g) s hd rfl
    cases q : atI _ _ with
    | none => rw [q] at h; exact h.elim
    | some z =>
      rw [q] at h
      obtain ⟨w, e1, e2⟩ := atI_reps h2 q
      exact ix_list value slice pins st σ H _ _ v u Q I rx ry ⟨p, xs, _, w, rfl, rfl, h1, e1, Post.here (d := z) h s e2⟩ hs
  · cases D.int_inv he
    split at h
    · rename_i ds e1
      obtain ⟨p, xs, rfl, _, h1, h2⟩ := lst_at s hd e1
      cases q : atI _ _ with
      | none => rw [q] at h; exact h.elim
      | some z =>
        rw [q] at h
        obtain ⟨w, e1, e2⟩ := atI_reps h2 q
        exact ix_list value slice pins st σ H _ _ v u Q I rx ry ⟨p, xs, _, w, rfl, rfl, SqL.of h1, e1, Post.here (d := z) h s e2⟩ hs
    · exact h.elim
  · cases D.int_inv he; cases D.str_inv hd
    split at h
    · rename_i hl
      cases q : atI _ _ with
      | none => rw [q] at h; exact h.elim
      | some z =>
        rw [q] at h
        exact ix_str value slice pins st σ H _ _ v u Q I rx ry ⟨_, _, z, rfl, rfl, by rw [sizeLine_eq]; exact hl, q, Post.here (d := D.str ⟨#[z]⟩) h s D.mk_str⟩ hs
    · exact h.elim
  · exact h.elim
theorem pe3_ix {f : F2} (hr : IxR X (r2 Z f)) (ha : PE X a (tE Z ea W)) (hb : PE X b (tE Z eb W)) (hs : PlainIx b := by exact fun _ _ => rfl) : PE X (.Subscript a b pos) (tE Z (eBin f ea eb) W) :=
  (pe_ix hr ha hb hs).imp fun σ H Q ⟨m, g, ρ, s, r, h⟩ => two (f := fun d e g => liftO (f d e g)) s r h fun m2 H2 d e v u g2 _ s2 r1 r2 _ h2 => ⟨m2, g2, d, e, s2, r1, r2, h2.lift⟩
abbrev RO : List Addr → Hp → Option Int → Option Int → Prop := fun _ _ a b => a = b
def tO3 (Z : Row) (ov : OV) (W : WX) : L2.TO := fun σ H Q => ∃ m g ρ, S Z.K Z.T m g H ∧ RhoRep Z.K m H ρ σ ∧ Post Z.K Z.T RO (ov ρ g) m H Q (WofX Z W σ)
theorem PO.imp {e : Option Expr} {t t' : L2.TO} (h : L2.PO X e t) (k : ∀ σ H Q, t' σ H Q → t σ H Q) : L2.PO X e t' := ⟨fun pins s σ H Q I q => h.run pins s σ H Q I (k σ H Q q)⟩
theorem po3_none : L2.PO X none (tO3 Z oNone W) := PO.imp po_none fun σ H Q ⟨m, g, ρ, s, r, h⟩ => Post.here (d := (none : Option Int)) h s rfl
theorem po3_some {e : Expr} (he : PE X e (tE Z ea W)) : L2.PO X (some e) (tO3 Z (oSome ea) W) := PO.imp (po_some he) fun σ H Q ⟨m, g, ρ, s, r, h⟩ => ⟨m, g, ρ, s, r, Post.bind h fun m1 H1 d v g1 e1 s1 r1 h1 => by
  split at h1
  · cases D.int_inv r1
    exact ⟨_, rfl, Post.here (d := some _) h1 s1 rfl⟩
  · exact h1.elim⟩
def rSl3 (Z : Row) : V → Option Int → Option Int → Hp → VK → Prop := fun x lo hi H Q => ∃ m g d, S Z.K Z.T m g H ∧ DRep Z.K m H d x ∧ Post Z.K Z.T (RD Z) (liftO (opSl d lo hi g)) m H Q W0
theorem sl_3 (hK : Z.K = X.kw) : L2.SlR X (rSl3 Z) := by
  obtain ⟨K, T, ec⟩ := Z
  obtain rfl : K = X.kw := hK
  intro pins st σ H x v vl vu lo hi sl Q I rx hs pl pu ⟨m, g, d, s, hd, h⟩
  unfold opSl at h
  split at h
  · rename_i ds
    have hd0 := hd
    obtain ⟨p, xs, rfl, h1, h2⟩ := ix_tup_l hd
    refine sl_tupA pins st σ H _ v vl vu lo hi sl Q I rx hs pl pu ⟨p, xs, rfl, h1, fun hw => ?_, fun hw p hp => ?_⟩
    · have e : cutD ds lo hi = ds := by
        unfold cutD
        rw [h2.length, hw.1, hw.2, ← h2.length]
        simp
      rw [e] at h
      exact Post.here (d := D.tup ds) h s hd0
    · obtain ⟨e1, s1, r1⟩ := tup_new s (cut_reps h2 lo hi) hp
      exact h m _ (.ref p) e1 s1 r1
  · split at h
    · rename_i ds e1
      obtain ⟨p, xs, rfl, _, h1, h2⟩ := lst_at s hd e1
      refine sl_list pins st σ H _ v vl vu lo hi sl Q I rx hs pl pu ⟨p, xs, rfl, SqL.of h1, fun p hp => ?_⟩
      obtain ⟨e1, s1, r1⟩ := lst_new s (cut_reps h2 lo hi) hp
      exact h _ _ (.ref p) e1 s1 r1
    · exact h.elim
  · cases D.str_inv hd
    split at h
    · rename_i hl
      exact sl_str pins st σ H _ v vl vu lo hi sl Q I rx hs pl pu ⟨_, rfl, by rw [sizeLine_eq]; exact hl, h.here s D.mk_str⟩
    · exact h.elim
  · exact h.elim
theorem pe3_sl {lo hi : Option Expr} {p2 : Pos} {ol oh : OV} (hK : Z.K = X.kw) (ha : PE X a (tE Z ea W)) (hl : L2.PO X lo (tO3 Z ol W)) (hh : L2.PO X hi (tO3 Z oh W)) : PE X (.Subscript a (.Slice lo hi none p2) pos) (tE Z (eSl ea ol oh) W) :=
  (pe_slice (sl_3 hK) ha hl hh).imp fun σ H Q ⟨m, g, ρ, s, r, h⟩ => ⟨m, g, ρ, s, r, Post.bind h fun m1 H1 d v g1 e1 s1 r1 h1 =>
    ⟨m1, g1, ρ, s1, r.mono e1, Post.bind h1 fun m2 H2 l l' g2 e2 s2 r2 h2 => ⟨m2, g2, ρ, s2, (r.mono e1).mono e2, Post.bind h2 fun m3 H3 k k' g3 e3 s3 r3 h3 => by
      cases r2; cases r3
      exact ⟨m3, g3, d, s3, (r1.mono e2).mono e3, h3.lift⟩⟩⟩⟩
theorem kitBs : kitB "NoneType" "int" = some false ∧ kitB "NoneType" "bool" = some false ∧ kitB "NoneType" "tuple" = some false ∧ kitB "NoneType" "list" = some false ∧ kitB "NoneType" "str" = some false ∧
    kitB "bool" "int" = some true ∧ kitB "bool" "bool" = some true ∧ kitB "bool" "tuple" = some false ∧ kitB "bool" "list" = some false ∧ kitB "bool" "str" = some false ∧
    kitB "int" "int" = some true ∧ kitB "int" "bool" = some false ∧ kitB "int" "tuple" = some false ∧ kitB "int" "list" = some false ∧ kitB "int" "str" = some false ∧
    kitB "str" "int" = some false ∧ kitB "str" "bool" = some false ∧ kitB "str" "tuple" = some false ∧ kitB "str" "list" = some false ∧ kitB "str" "str" = some true ∧
    kitB "tuple" "int" = some false ∧ kitB "tuple" "bool" = some false ∧ kitB "tuple" "tuple" = some true ∧ kitB "tuple" "list" = some false ∧ kitB "tuple" "str" = some false ∧
    kitB "list" "int" = some false ∧ kitB "list" "bool" = some false ∧ kitB "list" "tuple" = some false ∧ kitB "list" "list" = some true ∧ kitB "list" "str" = some false := by
  decide +kernel
theorem isB_ok {K : KW} {T : List (Addr × Str)} {m : List Addr} {g : GH} {H : Hp} {t : BT} {d : D} {v : V} {r : Bool} (s : S K T m g H) (h : DRep K m H d v) (e : isB t d g = some r) :
    ∃ ty : String, TyX K.K H v (.type ty) ∧ PySem.W.kitOne K.K (.type ty) (.type t.name) = some r := by
  obtain ⟨k1, k2, k3, k4, k5, k6, k7, k8, k9, k10, k11, k12, k13, k14, k15, k16, k17, k18, k19, k20, k21, k22, k23, k24, k25, k26, k27, k28, k29, k30⟩ := kitBs
  unfold isB at e
  cases d with
  | non =>
    cases D.non_inv h; cases e
    refine ⟨_, .base .non, ?_⟩
    cases t <;> exact kit_ty (by assumption)
  | bl b =>
    cases D.bl_inv h; cases e
    refine ⟨_, .base (.bl b), ?_⟩
    cases t <;> exact kit_ty (by assumption)
  | int i =>
    cases D.int_inv h; cases e
    refine ⟨_, .base (.int i), ?_⟩
    cases t <;> exact kit_ty (by assumption)
  | str i =>
    cases D.str_inv h; cases e
    refine ⟨_, .base (.str i), ?_⟩
    cases t <;> exact kit_ty (by assumption)
  | tup ds =>
    cases e
    obtain ⟨p, xs, rfl, h1, h2⟩ := ix_tup_l h
    refine ⟨"tuple", ?_, ?_⟩
    · rcases h1 with (h1 | ⟨o, h1⟩) | ⟨o, its, n, h1, h2, _⟩
      · exact .base (.tup h1)
      · exact .fTuple h1
      · exact .kTuple h1 h2
    · cases t <;> exact kit_ty (by assumption)
  | rol ds =>
    cases e
    rw [DRep] at h
    obtain ⟨p, xs, rfl, h1, h2⟩ := h
    refine ⟨"list", ?_, ?_⟩
    · rcases h1 with ⟨o, h1⟩ | ⟨o, its, n, h1, h2, _⟩
      · exact .base (.frz h1)
      · exact .kList h1 h2
    · cases t <;> exact kit_ty (by assumption)
  | ref i =>
    simp only at e
    split at e
    · rename_i ds e1
      cases e
      obtain ⟨p, xs, rfl, _, h1, h2⟩ := lst_at s h e1
      refine ⟨"list", .base (.lst h1), ?_⟩
      cases t <;> exact kit_ty (by assumption)
    · cases e
theorem pe3_isB (t : BT) {x : Str} {p p2 : Pos} (hK : Z.K = X.kw) (hg : Gl X "isinstance") (hm : X.mg "isinstance" = none) (hg2 : Gl X x) (hm2 : X.mg x = none) (hx : bootBuiltins x = some (.type t.name)) (ha : PE X a (tE Z ea W))
    (hv : bootBuiltins "isinstance" = some (.builtin "isinstance") := by exact boot_isinstance) (hn : x ≠ "__name__" := by decide) (hdb : (x == ("__debug__" : Str)) = false := by decide)
    (he : starEach [a, .Name x p2] X.env = (false, eval a X.env) :: starEach [.Name x p2] X.env := by rfl) (he2 : starEach [.Name x p2] X.env = (false, eval (.Name x p2) X.env) :: starEach [] X.env := by rfl)
    (hpl : (backTo pos (starEach [.Name x p2] X.env)).any (·.1) = false := by rfl) : PE X (.Call (.Name "isinstance" p) [a, .Name x p2] [] pos) (tE Z (eIsB t ea) W) := by
  obtain ⟨K, T, ec⟩ := Z
  obtain rfl : K = X.kw := hK
  refine (pe_callB call_isi hg hm hv (pa_cons ha (pa_cons (pe_bltn (v := .ty t.name) hg2 hm2 hx rfl hn hdb) pa_nil he2) he) (by decide) (by decide) he hpl).imp fun σ H Q ⟨m, g, ρ, s, r, h⟩ => ⟨m, g, ρ, s, r, Post.bind h fun m1 H1 d v g1 e1 s1 r1 h1 => ?_⟩
  split at h1
  · rename_i k e
    obtain ⟨ty, h2, h3⟩ := isB_ok s1 r1 e
    exact ⟨v, .ty t.name, _, _, k, rfl, .ty _, h2, h3, Post.here (d := D.bl k) h1 s1 D.mk_bl⟩
  · exact h1.elim

/-! built-ins -/
theorem reps1 {K : KW} {m : List Addr} {H : Hp} {d : D} {xs : List V} (h : DReps K m H [d] xs) : ∃ v, xs = [v] ∧ DRep K m H d v := by
  rw [DReps] at h
  obtain ⟨v, vs, rfl, h1, h2⟩ := h
  rw [DReps] at h2
  subst h2
  exact ⟨v, rfl, h1⟩
theorem reps2 {K : KW} {m : List Addr} {H : Hp} {d e : D} {xs : List V} (h : DReps K m H [d, e] xs) : ∃ v u, xs = [v, u] ∧ DRep K m H d v ∧ DRep K m H e u := by
  rw [DReps] at h
  obtain ⟨v, vs, rfl, h1, h2⟩ := h
  obtain ⟨u, rfl, h3⟩ := reps1 h2
  exact ⟨v, u, rfl, h1, h3⟩
theorem ints_reps {K : KW} {m : List Addr} {H : Hp} : ∀ {ds : List D} {vs : List V} {is : List Int}, DReps K m H ds vs → intsOf ds = some is → vs = is.map V.int
  | [], _, is, h, e => by rw [DReps] at h; subst h; cases e; rfl
  | d :: ds, _, is, h, e => by
    rw [DReps] at h
    obtain ⟨v, vs, rfl, h1, h2⟩ := h
    cases d with
    | int i =>
      unfold intsOf at e
      simp only [Option.map_eq_some_iff] at e
      obtain ⟨js, e1, rfl⟩ := e
      cases D.int_inv h1
      rw [ints_reps h2 e1]
      rfl
    | _ => cases e
theorem c_len (hK : Z.K = X.kw) : CallR X (.builtin "len") (rN Z fLen) := by
  obtain ⟨K, T, ec⟩ := Z
  obtain rfl : K = X.kw := hK
  intro pins st σ H xs us Q I rx ⟨m, g, ds, s, hd, h⟩
  unfold fLen at h
  split at h
  · obtain ⟨v, rfl, h1⟩ := reps1 hd
    obtain ⟨p, ys, rfl, h1, h2⟩ := ix_tup_l h1
    exact call_len_seq pins st σ H _ us Q I rx ⟨p, ys, rfl, .inr h1, by rw [← h2.length]; exact h.here s D.mk_int⟩
  · obtain ⟨v, rfl, h1⟩ := reps1 hd
    cases D.str_inv h1
    split at h
    · rename_i hl
      exact call_len_str pins st σ H _ us Q I rx ⟨_, rfl, by rw [sizeLine_eq]; exact hl, h.here s D.mk_int⟩
    · exact h.elim
  · obtain ⟨v, rfl, h1⟩ := reps1 hd
    cases e : lstOf g _ with
    | none => rw [e] at h; exact h.elim
    | some es =>
      rw [e] at h
      obtain ⟨p, ys, rfl, h2, h3⟩ := lstOf_at s h1 e
      exact call_len_seq pins st σ H _ us Q I rx ⟨p, ys, rfl, .inl h2, by rw [← h3.length]; exact Post.here (d := D.int es.length) h s D.mk_int⟩
  · exact h.elim
theorem c_abs : CallR X (.builtin "abs") (rN Z fAbs) := by
  intro pins st σ H xs us Q I rx ⟨m, g, ds, s, hd, h⟩
  unfold fAbs at h
  split at h
  · obtain ⟨v, rfl, h1⟩ := reps1 hd
    cases D.int_inv h1
    exact call_abs pins st σ H _ us Q I rx ⟨_, rfl, h.here s D.mk_int⟩
  · exact h.elim
theorem foldl_min : ∀ (is : List Int) (i : Int), (is.foldl (fun a b => if b < a then b else a) i ∈ i :: is) ∧ ∀ y ∈ i :: is, is.foldl (fun a b => if b < a then b else a) i ≤ y
  | [], i => ⟨by simp, fun y hy => by simp at hy; subst hy; exact Int.le_refl _⟩
  | j :: is, i => by
    obtain ⟨h1, h2⟩ := foldl_min is (if j < i then j else i)
    simp only [List.foldl_cons]
    refine ⟨?_, fun y hy => ?_⟩
    · rcases List.mem_cons.mp h1 with h | h
      · rw [h]; split <;> simp
      · exact List.mem_cons_of_mem _ (List.mem_cons_of_mem _ h)
    · have h3 := h2 _ List.mem_cons_self
      have h4 : (if j < i then j else i) ≤ i ∧ (if j < i then j else i) ≤ j := by split <;> omega
      rcases List.mem_cons.mp hy with rfl | hy
      · exact Int.le_trans h3 h4.1
      · rcases List.mem_cons.mp hy with rfl | hy
        · exact Int.le_trans h3 h4.2
        · exact h2 y (List.mem_cons_of_mem _ hy)
theorem foldl_max : ∀ (is : List Int) (i : Int), (is.foldl (fun a b => if a < b then b else a) i ∈ i :: is) ∧ ∀ y ∈ i :: is, y ≤ is.foldl (fun a b => if a < b then b else a) i
  | [], i => ⟨by simp, fun y hy => by simp at hy; subst hy; exact Int.le_refl _⟩
  | j :: is, i => by
    obtain ⟨h1, h2⟩ := foldl_max is (if i < j then j else i)
    simp only [List.foldl_cons]
    refine ⟨?_, fun y hy => ?_⟩
    · rcases List.mem_cons.mp h1 with h | h
      · rw [h]; split <;> simp
      · exact List.mem_cons_of_mem _ (List.mem_cons_of_mem _ h)
    · have h3 := h2 _ List.mem_cons_self
      have h4 : i ≤ (if i < j then j else i) ∧ j ≤ (if i < j then j else i) := by split <;> omega
      rcases List.mem_cons.mp hy with rfl | hy
      · exact Int.le_trans h4.1 h3
      · rcases List.mem_cons.mp hy with rfl | hy
        · exact Int.le_trans h4.2 h3
        · exact h2 y (List.mem_cons_of_mem _ hy)
theorem minI_is (i : Int) (is : List Int) : minI (i :: is) ∈ i :: is ∧ ∀ y ∈ i :: is, minI (i :: is) ≤ y := foldl_min is i
theorem maxI_is (i : Int) (is : List Int) : maxI (i :: is) ∈ i :: is ∧ ∀ y ∈ i :: is, y ≤ maxI (i :: is) := foldl_max is i
theorem lst_ints {K : KW} {T : List (Addr × Str)} {m : List Addr} {g : GH} {H : Hp} {d : D} {is : List Int} {v : V} (s : S K T m g H) (h : DRep K m H d v) (e : (lstOf g d).bind intsOf = some is) : ∃ p, v = .ref p ∧ SqL K.K H p (is.map V.int) := by
  rw [Option.bind_eq_some_iff] at e
  obtain ⟨ds, e1, e2⟩ := e
  obtain ⟨p, xs, rfl, h1, h2⟩ := lstOf_at s h e1
  rw [ints_reps h2 e2] at h1
  exact ⟨p, rfl, h1⟩
theorem c_min (hK : Z.K = X.kw) (hc : X.calm = true) : CallR X (.builtin "min") (rN Z fMin) := by
  obtain ⟨K, T, ec⟩ := Z
  obtain rfl : K = X.kw := hK
  intro pins st σ H xs us Q I rx ⟨m, g, ds, s, hd, h⟩
  unfold fMin at h
  split at h
  · obtain ⟨v, u, rfl, h1, h2⟩ := reps2 hd
    cases D.int_inv h1; cases D.int_inv h2
    exact call_min2 hc pins st σ H _ us Q I rx ⟨_, _, rfl, h.here s D.mk_int⟩
  · obtain ⟨v, rfl, h1⟩ := reps1 hd
    split at h
    · rename_i i is e
      obtain ⟨p, rfl, h2⟩ := lst_ints s h1 e
      refine cr_min hc pins st σ H _ us Q I rx ⟨p, i :: is, rfl, h2, by simp, fun k hk hle => ?_⟩
      obtain ⟨a1, a2⟩ := minI_is i is
      have : k = minI (i :: is) := Int.le_antisymm (hle _ a1) (a2 _ hk)
      rw [this]
      exact h.here s D.mk_int
    · exact h.elim
  · exact h.elim
theorem c_max (hK : Z.K = X.kw) (hc : X.calm = true) : CallR X (.builtin "max") (rN Z fMax) := by
  obtain ⟨K, T, ec⟩ := Z
  obtain rfl : K = X.kw := hK
  intro pins st σ H xs us Q I rx ⟨m, g, ds, s, hd, h⟩
  unfold fMax at h
  split at h
  · obtain ⟨v, u, rfl, h1, h2⟩ := reps2 hd
    cases D.int_inv h1; cases D.int_inv h2
    exact call_max2 hc pins st σ H _ us Q I rx ⟨_, _, rfl, h.here s D.mk_int⟩
  · obtain ⟨v, rfl, h1⟩ := reps1 hd
    split at h
    · rename_i i is e
      obtain ⟨p, rfl, h2⟩ := lst_ints s h1 e
      refine cr_max hc pins st σ H _ us Q I rx ⟨p, i :: is, rfl, h2, by simp, fun k hk hle => ?_⟩
      obtain ⟨a1, a2⟩ := maxI_is i is
      have : k = maxI (i :: is) := Int.le_antisymm (a2 _ hk) (hle _ a1)
      rw [this]
      exact h.here s D.mk_int
    · exact h.elim
  · exact h.elim
theorem c_sum (hK : Z.K = X.kw) (hc : X.calm = true) : CallR X (.builtin "sum") (rN Z fSum) := by
  obtain ⟨K, T, ec⟩ := Z
  obtain rfl : K = X.kw := hK
  intro pins st σ H xs us Q I rx ⟨m, g, ds, s, hd, h⟩
  unfold fSum at h
  split at h
  · obtain ⟨v, rfl, h1⟩ := reps1 hd
    split at h
    · rename_i is e
      obtain ⟨p, rfl, h2⟩ := lst_ints s h1 e
      exact cr_sum hc pins st σ H _ us Q I rx ⟨p, is, rfl, h2, h.here s D.mk_int⟩
    · exact h.elim
  · exact h.elim
theorem c_int : CallR X (.type "int") (rN Z fInt) := by
  intro pins st σ H xs us Q I rx ⟨m, g, ds, s, hd, h⟩
  unfold fInt at h
  split at h
  · obtain ⟨v, rfl, h1⟩ := reps1 hd
    cases D.int_inv h1
    exact call_int1 pins st σ H _ us Q I rx (.inl ⟨_, rfl, h.here s D.mk_int⟩)
  · obtain ⟨v, rfl, h1⟩ := reps1 hd
    cases D.bl_inv h1
    exact call_int1 pins st σ H _ us Q I rx (.inr ⟨_, rfl, h.here s D.mk_int⟩)
  · obtain ⟨v, rfl, h1⟩ := reps1 hd
    cases D.str_inv h1
    split at h
    · rename_i hl
      cases e : PySem.intText? _ with
      | none => rw [e] at h; exact h.elim
      | some n =>
        rw [e] at h
        exact call_int_str pins st σ H _ us Q I rx ⟨_, n, rfl, e, hl, Post.here (d := D.int n) h s D.mk_int⟩
    · exact h.elim
  · exact h.elim
theorem c_bool : CallR X (.type "bool") (rN Z fBool) := by
  intro pins st σ H xs us Q I rx ⟨m, g, ds, s, hd, h⟩
  unfold fBool at h
  split at h
  · obtain ⟨v, rfl, h1⟩ := reps1 hd
    cases D.int_inv h1
    exact call_bool1 pins st σ H _ us Q I rx (.inl ⟨_, rfl, h.here s D.mk_bl⟩)
  · obtain ⟨v, rfl, h1⟩ := reps1 hd
    cases D.bl_inv h1
    exact call_bool1 pins st σ H _ us Q I rx (.inr ⟨_, rfl, h.here s D.mk_bl⟩)
  · exact h.elim
theorem c_str : CallR X (.type "str") (rN Z fStr) := by
  intro pins st σ H xs us Q I rx ⟨m, g, ds, s, hd, h⟩
  unfold fStr at h
  split at h
  · obtain ⟨v, rfl, h1⟩ := reps1 hd
    cases D.int_inv h1
    split at h
    · rename_i hl
      exact call_str_int pins st σ H _ us Q I rx ⟨_, rfl, hl, h.here s D.mk_str⟩
    · exact h.elim
  · exact h.elim
theorem c_list (hK : Z.K = X.kw) : CallR X (.type "list") (rN Z fList) := by
  obtain ⟨K, T, ec⟩ := Z
  obtain rfl : K = X.kw := hK
  intro pins st σ H xs us Q I rx ⟨m, g, ds, s, hd, h⟩
  unfold fList at h
  split at h
  · obtain ⟨v, rfl, h1⟩ := reps1 hd
    obtain ⟨p, ys, rfl, h1, h2⟩ := ix_tup_l h1
    refine call_list_of pins st σ H _ us Q I rx ⟨p, ys, rfl, .inr h1, fun p hp => ?_⟩
    obtain ⟨e1, s1, r1⟩ := lst_new s h2 hp
    exact h _ _ (.ref p) e1 s1 r1
  · obtain ⟨v, rfl, h1⟩ := reps1 hd
    cases e : lstOf g _ with
    | none => rw [e] at h; exact h.elim
    | some es =>
      rw [e] at h
      obtain ⟨p, ys, rfl, h2, h3⟩ := lstOf_at s h1 e
      refine call_list_of pins st σ H _ us Q I rx ⟨p, ys, rfl, .inl h2, fun p hp => ?_⟩
      obtain ⟨e1, s1, r1⟩ := lst_new s h3 hp
      exact h _ _ (.ref p) e1 s1 r1
  · exact h.elim
theorem c_tuple (hK : Z.K = X.kw) : CallR X (.type "tuple") (rN Z fTuple) := by
  obtain ⟨K, T, ec⟩ := Z
  obtain rfl : K = X.kw := hK
  intro pins st σ H xs us Q I rx ⟨m, g, ds, s, hd, h⟩
  unfold fTuple at h
  split at h
  · obtain ⟨v, rfl, h0⟩ := reps1 hd
    obtain ⟨p, ys, rfl, h1, h2⟩ := ix_tup_l h0
    exact call_tuple_of pins st σ H _ us Q I rx ⟨p, ys, rfl, .inr ⟨h1, Post.here h s h0⟩⟩
  · obtain ⟨v, rfl, h1⟩ := reps1 hd
    cases e : lstOf g _ with
    | none => rw [e] at h; exact h.elim
    | some es =>
      rw [e] at h
      obtain ⟨p, ys, rfl, h2, h3⟩ := lstOf_at s h1 e
      refine call_tuple_of pins st σ H _ us Q I rx ⟨p, ys, rfl, .inl ⟨h2, fun p hp => ?_⟩⟩
      obtain ⟨e1, s1, r1⟩ := tup_new s h3 hp
      exact h _ _ (.ref p) e1 s1 r1
  · exact h.elim
/-- xs.append(e) -/
theorem pe3_app {apos : Pos} {o e : Expr} (hK : Z.K = X.kw) (ho : PE X o (tE Z ea W)) (ha : PE X e (tE Z eb W)) (hbase : attributeBase o "append" X.env (eval o X.env) = eval o X.env := by rfl)
    (hfew : ((backTo pos (starEach [e] X.env)).all (fun x => !x.1) && (backToKw pos (keywordEach [] X.env)).all (fun x => x.1.isSome)
      && decide ([e].length + ([] : List Keyword).length + (if ([] : List Keyword).isEmpty then 0 else 1) < 30)) = true := by rfl)
    (hline : (apos.endLine == pos.line) = true := by rfl) (hs : starEach [e] X.env = (false, eval e X.env) :: starEach [] X.env := by rfl) (hplain : (backTo pos (starEach [] X.env)).any (·.1) = false := by rfl) :
    PE X (.Call (.Attribute o "append" apos) [e] [] pos) (tE Z (eApp ea eb) W) := by
  obtain ⟨K, T, ec⟩ := Z
  obtain rfl : K = X.kw := hK
  refine (pe_bm PySem.F.plainAttrs_list PySem.F.slot_list_append PySem.F.type_list_append mt_append ho (pa_cons ha pa_nil hs) hbase hfew hline hs hplain).imp fun σ H Q ⟨m, g, ρ, s, r, h⟩ => ⟨m, g, ρ, s, r, Post.bind h fun m1 H1 d v g1 e1 s1 r1 h1 => ?_⟩
  split at h1
  · rename_i es0 e0
    obtain ⟨p0, xs0, rfl, h20, h30⟩ := lstOf_at s1 r1 e0
    refine ⟨.inl ⟨rfl, xs0, h20⟩, m1, g1, ρ, s1, r.mono e1, Post.bind h1 fun m2 H2 x u g2 e2 s2 r2 h2 => ?_⟩
    split at h2
    · rename_i i
      split at h2
      · rename_i ds e3
        split at h2
        · rename_i hl
          obtain ⟨p, xs, e4, hm, h3, h4⟩ := lst_at s2 (r1.mono e2) e3
          cases e4
          have k := s2.put (u := .lst (xs ++ [u])) (o := .lst (ds ++ [x])) hm h3 trivial
          have e5 : DReps X.kw m2 H2 (ds ++ [x]) (xs ++ [u]) := h4.append (by rw [DReps]; exact ⟨u, [], rfl, r2, by rw [DReps]⟩)
          have ex : Ext m2 H2 m2 (upd H2 p0 (.lst (xs ++ [u]))) := s2.putE hm h3 trivial
          obtain ⟨e6, s6⟩ := k ⟨_, upd_same, DReps.mono ex _ _ e5⟩
          exact ⟨p0, xs, u, rfl, rfl, h3, by rw [← h4.length, sizeLine_eq]; exact hl, h2 m2 _ .non e6 s6 D.mk_non⟩
        · exact h2.elim
      · exact h2.elim
    · exact h2.elim
  · exact h1.elim
end
end L3

/-! L3e: targets, statements, loops, comprehensions, defs. -/
namespace L3
open PySem PySem.Spec PyProof.Rows L2

/-! ### targets -/
inductive T3 where
  | one (i : Nat) | tup (is : List Nat)
def setR : Rho → List Nat → List D → Rho
  | ρ, i :: is, d :: ds => setR (ρ.set i (some d)) is ds
  | ρ, _, _ => ρ
def setV : L2.St → List Nat → List V → L2.St
  | σ, i :: is, d :: ds => setV (σ.set i (some d)) is ds
  | σ, _, _ => σ
def T3.set (t : T3) (d : D) (ρ : Rho) : Option Rho := match t with
  | .one i => some (ρ.set i (some d))
  | .tup is => match d with
    | .tup ds => if ds.length = is.length then some (setR ρ is ds) else none
    | _ => none
def gOfs : List Nat → TGs
  | [] => gNil
  | i :: is => gCons (gName i) (gOfs is)
def gOf (K : PySem.W.Frag) : T3 → TG
  | .one i => gName i
  | .tup is => gTup K is.length (gOfs is)
def T3.slots : T3 → List Nat
  | .one i => [i]
  | .tup is => is
section
variable {K : KW} {T : List (Addr × Str)} {m : List Addr} {H : Hp} {g : GH} {ρ ρ' : Rho} {σ : L2.St}
theorem setV_length : ∀ (is : List Nat) (vs : List V) (σ : L2.St), (setV σ is vs).length = σ.length
  | [], _, _ => by unfold setV; rfl
  | i :: is, [], _ => by unfold setV; rfl
  | i :: is, v :: vs, σ => by
    rw [setV, setV_length is vs]
    simp
theorem gOfs_run : ∀ (is : List Nat) (vs : List V) (σ : L2.St) (H : Hp) (Q : L2.St → Hp → Prop), vs.length = is.length → Q (setV σ is vs) H → gOfs is vs σ H Q
  | [], vs, σ, H, Q, h, q => by
    have : vs = [] := by simpa using h
    subst this
    exact ⟨rfl, by unfold setV at q; exact q⟩
  | i :: is, [], σ, H, Q, h, q => by simp at h
  | i :: is, v :: vs, σ, H, Q, h, q => by
    refine ⟨v, vs, rfl, ?_⟩
    show gOfs is vs (σ.set i (some v)) H Q
    exact gOfs_run is vs _ H Q (by simpa using h) (by rw [setV] at q; exact q)
theorem setR_rep : ∀ (is : List Nat) (ds : List D) (vs : List V) (ρ : Rho) (σ : L2.St), RhoRep K m H ρ σ → DReps K m H ds vs → (∀ i ∈ is, i < σ.length) → RhoRep K m H (setR ρ is ds) (setV σ is vs)
  | [], _, _, ρ, σ, r, _, _ => by unfold setR setV; exact r
  | i :: is, [], vs, ρ, σ, r, h, _ => by
    rw [DReps] at h
    subst h
    unfold setR setV
    exact r
  | i :: is, d :: ds, vs, ρ, σ, r, h, hi => by
    rw [DReps] at h
    obtain ⟨v, vs', rfl, h1, h2⟩ := h
    rw [setR, setV]
    exact setR_rep is ds vs' _ _ (r.set (hi i List.mem_cons_self) h1) h2 fun j hj => by rw [List.length_set]; exact hi j (List.mem_cons_of_mem _ hj)
theorem T3.run {t : T3} {d : D} {v : V} {Q : L2.St → Hp → Prop} (r : RhoRep K m H ρ σ) (h : DRep K m H d v) (e : t.set d ρ = some ρ') (hs : ∀ i ∈ t.slots, i < σ.length)
    (k : ∀ σ', σ'.length = σ.length → RhoRep K m H ρ' σ' → (∀ vs, (∀ i ∈ t.slots, i ∈ vs) → wipe σ' vs = wipe σ vs) → Q σ' H) : gOf K.K t v σ H Q := by
  have wset : ∀ (vs : List Nat) (i : Nat) (o : Option V) (σ : L2.St), i ∈ vs → wipe (σ.set i o) vs = wipe σ vs := by
    intro vs
    induction vs with
    | nil => intro i o σ h; cases h
    | cons w ws ih =>
      intro i o σ hi
      show (wipe (σ.set i o) ws).set w none = (wipe σ ws).set w none
      by_cases hw : i ∈ ws
      · rw [ih i o σ hw]
      · have hiw : i = w := by
          rcases List.mem_cons.mp hi with z | z
          · exact z
          · exact absurd z hw
        subst hiw
        have comm : ∀ (us : List Nat) (σ : L2.St), i ∉ us → wipe (σ.set i o) us = (wipe σ us).set i o := by
          intro us
          induction us with
          | nil => intro σ _; rfl
          | cons u us ih2 =>
            intro σ hu
            show (wipe (σ.set i o) us).set u none = ((wipe σ us).set u none).set i o
            rw [ih2 σ fun z => hu (List.mem_cons_of_mem _ z), List.set_comm]
            intro z
            exact hu (by rw [z]; exact List.mem_cons_self)
        rw [comm ws σ hw, List.set_set]
  cases t with
  | one i =>
    cases e
    exact k _ (by simp) (r.set (hs i (by simp [T3.slots])) h) fun vs hv => wset vs i _ σ (hv i (by simp [T3.slots]))
  | tup is =>
    unfold T3.set at e
    simp only at e
    split at e
    · rename_i ds
      split at e
      · rename_i hl
        cases e
        rw [DRep] at h
        obtain ⟨a, xs, rfl, h1, h2⟩ := h
        refine ⟨a, xs, rfl, h1, by rw [← h2.length]; exact hl, gOfs_run is xs σ H Q (by rw [← h2.length]; exact hl) (k _ (setV_length _ _ _) (setR_rep is ds xs ρ σ r h2 hs) fun vs hv => ?_)⟩
        have : ∀ (js : List Nat) (ys : List V) (σ : L2.St), (∀ i ∈ js, i ∈ vs) → wipe (setV σ js ys) vs = wipe σ vs := by
          intro js
          induction js with
          | nil => intro ys σ _; unfold setV; rfl
          | cons j js ih =>
            intro ys σ hj
            cases ys with
            | nil => unfold setV; rfl
            | cons y ys =>
              rw [setV, ih ys _ fun i hi => hj i (List.mem_cons_of_mem _ hi), wset vs j _ σ (hj j List.mem_cons_self)]
        exact this is xs σ hv
      · cases e
    · cases e
end
section
variable {X : Cx}
theorem pg3_one {i : Nat} {x : Str} {pos : Pos} (hN : X.N.Nodup) (hi : X.N[i]? = some x) (hx : Loc X.env.scope x) (hf : X.fn x = true ∨ X.env.scope.names.lookup x = some .local := by first | exact .inl rfl | exact .inr rfl) : PG X (.Name x pos) (gOf X.K (.one i)) := pg_name hN hi hx hf
theorem pgs3_nil : PGs X [] (gOfs []) := pgs_nil
theorem pgs3_cons {i : Nat} {is : List Nat} {x : Str} {pos : Pos} {es : List Expr} (hN : X.N.Nodup) (hi : X.N[i]? = some x) (hx : Loc X.env.scope x) (r : PGs X es (gOfs is)) (hf : X.fn x = true ∨ X.env.scope.names.lookup x = some .local := by first | exact .inl rfl | exact .inr rfl) :
    PGs X (.Name x pos :: es) (gOfs (i :: is)) := pgs_cons (pg_name hN hi hx hf) r
end

/-! ### statements -/
def bindS {α : Type} (r : Res α) (ρ : Rho) (k : α → GH → Out) : Out := match r with
  | .ok a g => k a g
  | .er e g => .er e ρ g
  | .bad => .bad
@[simp] theorem bindS_ok {α : Type} (a : α) (g : GH) (ρ : Rho) (k : α → GH → Out) : bindS (.ok a g) ρ k = k a g := rfl
@[simp] theorem bindS_er {α : Type} (e : Exc) (g : GH) (ρ : Rho) (k : α → GH → Out) : bindS (.er e g : Res α) ρ k = .er e ρ g := rfl
@[simp] theorem bindS_bad {α : Type} (ρ : Rho) (k : α → GH → Out) : bindS (.bad : Res α) ρ k = .bad := rfl
def sNil : SV := fun ρ g => .nx ρ g
def sSeq (a b : SV) : SV := fun ρ g => match a ρ g with
  | .nx ρ' g' => b ρ' g'
  | o => o
def sAsg (t : T3) (e : EV) : SV := fun ρ g => bindS (e ρ g) ρ fun d g1 => match t.set d ρ with
  | some ρ' => .nx ρ' g1
  | none => .bad
def sPar (i j : Nat) (a b : EV) : SV := fun ρ g => bindS (a ρ g) ρ fun d g1 => bindS (b ρ g1) ρ fun e g2 => .nx ((ρ.set i (some d)).set j (some e)) g2
def sPar3 (i j k : Nat) (a b c : EV) : SV := fun ρ g => bindS (a ρ g) ρ fun d g1 => bindS (b ρ g1) ρ fun e g2 => bindS (c ρ g2) ρ fun f g3 => .nx (((ρ.set i (some d)).set j (some e)).set k (some f)) g3
def sExp (e : EV) : SV := fun ρ g => bindS (e ρ g) ρ fun _ g1 => .nx ρ g1
def sRet (e : EV) : SV := fun ρ g => bindS (e ρ g) ρ fun d g1 => .rt d g1
def sIf (t : TV) (a b : SV) : SV := fun ρ g => bindS (t ρ g) ρ fun c g1 => if c then a ρ g1 else b ρ g1
def sBrk : SV := fun ρ g => .bk ρ g
def sCnt : SV := fun ρ g => .ct ρ g
def sRaise (c : Nat) : SV := fun ρ g => .er (.own c) ρ g
mutual
def D.same : D → D → Bool
  | .non, .non => true
  | .bl a, .bl b => a == b
  | .int a, .int b => a == b
  | .str a, .str b => a == b
  | .tup a, .tup b => D.sames a b
  | .rol a, .rol b => D.sames a b
  | .ref a, .ref b => a == b
  | _, _ => false
def D.sames : List D → List D → Bool
  | [], [] => true
  | a :: as, b :: bs => D.same a b && D.sames as bs
  | _, _ => false
end
mutual
theorem D.same_refl : ∀ d : D, D.same d d = true
  | .non => by simp [D.same]
  | .bl _ => by simp [D.same]
  | .int _ => by simp [D.same]
  | .str _ => by simp [D.same]
  | .tup ds => by simpa [D.same] using D.sames_refl ds
  | .rol ds => by simpa [D.same] using D.sames_refl ds
  | .ref _ => by simp [D.same]
theorem D.sames_refl : ∀ ds : List D, D.sames ds ds = true
  | [] => by simp [D.sames]
  | d :: ds => by simp [D.sames, D.same_refl d, D.sames_refl ds]
end
mutual
theorem D.same_eq : ∀ a b : D, D.same a b = true → a = b
  | .non, b, h => by cases b <;> simp [D.same] at h <;> rfl
  | .bl _, b, h => by cases b <;> simp [D.same] at h; rw [h]
  | .int _, b, h => by cases b <;> simp [D.same] at h; rw [h]
  | .str _, b, h => by cases b <;> simp [D.same] at h; rw [h]
  | .tup ds, b, h => by
    cases b <;> simp [D.same] at h
    rw [D.sames_eq _ _ h]
  | .rol ds, b, h => by
    cases b <;> simp [D.same] at h
    rw [D.sames_eq _ _ h]
  | .ref _, b, h => by cases b <;> simp [D.same] at h; rw [h]
theorem D.sames_eq : ∀ a b : List D, D.sames a b = true → a = b
  | [], [], _ => rfl
  | [], _ :: _, h => by simp [D.sames] at h
  | _ :: _, [], h => by simp [D.sames] at h
  | a :: as, b :: bs, h => by
    simp only [D.sames, Bool.and_eq_true] at h
    rw [D.same_eq a b h.1, D.sames_eq as bs h.2]
end
abbrev Deps := List (Nat × List D)
def depsOk (g : GH) : Deps → Bool
  | [] => true
  | (i, ds) :: r => (match g[i]? with | some (.lst es) => D.sames es ds | _ => false) && depsOk g r
theorem depsOk_mem {g : GH} : ∀ {l : Deps} {i : Nat} {ds : List D}, depsOk g l = true → (i, ds) ∈ l → g[i]? = some (.lst ds)
  | [], _, _, _, h => by cases h
  | (j, es) :: l, i, ds, h, hm => by
    simp only [depsOk, Bool.and_eq_true] at h
    rcases List.mem_cons.mp hm with e | hm
    · cases e
      have h1 := h.1
      split at h1
      · rename_i fs e1
        rw [D.sames_eq _ _ h1] at e1
        exact e1
      · cases h1
    · exact depsOk_mem h.2 hm
structure Src where
  deps : Deps
  items : List D
abbrev IV := Rho → GH → Res Src
/-- a walk of a list or a tuple -/
def iSeq (a : EV) : IV := fun ρ g => (a ρ g).bind fun d g1 => match d with
  | .tup ds => .ok ⟨[], ds⟩ g1
  | .rol ds => .ok ⟨[], ds⟩ g1
  | .ref i => match g1[i]? with
    | some (.lst ds) => .ok ⟨[(i, ds)], ds⟩ g1
    | _ => .bad
  | _ => .bad
def iRg1 (a : EV) : IV := fun ρ g => (a ρ g).bind fun d g1 => match d with
  | .int n => if -4611686018427387904 ≤ n ∧ n < 4611686018427387904 then .ok ⟨[], rangeD 0 n⟩ g1 else .bad
  | _ => .bad
def iRg2 (a b : EV) : IV := fun ρ g => (a ρ g).bind fun d g1 => (b ρ g1).bind fun e g2 => match d, e with
  | .int n, .int k => if -4611686018427387904 ≤ n ∧ n < 4611686018427387904 ∧ -4611686018427387904 ≤ k ∧ k < 4611686018427387904 then .ok ⟨[], rangeD n k⟩ g2 else .bad
  | _, _ => .bad
def forL (deps : Deps) (step : D → SV) : List D → SV
  | [], ρ, g => if depsOk g deps then .nx ρ g else .bad
  | x :: xs, ρ, g => if depsOk g deps then (match step x ρ g with
    | .nx ρ' g' => forL deps step xs ρ' g'
    | .ct ρ' g' => forL deps step xs ρ' g'
    | .bk ρ' g' => .nx ρ' g'
    | o => o) else .bad
def stepOf (t : T3) (body : SV) : D → SV := fun d ρ g => match t.set d ρ with
  | some ρ' => body ρ' g
  | none => .bad
def sFor (src : IV) (t : T3) (body : SV) : SV := fun ρ g => bindS (src ρ g) ρ fun s g1 => forL s.deps (stepOf t body) s.items ρ g1
def whileL (t : TV) (body : SV) : Nat → SV
  | 0, _, _ => .bad
  | n + 1, ρ, g => bindS (t ρ g) ρ fun c g1 => if c then (match body ρ g1 with
    | .nx ρ' g' => whileL t body n ρ' g'
    | .ct ρ' g' => whileL t body n ρ' g'
    | .bk ρ' g' => .nx ρ' g'
    | o => o) else .nx ρ g1
def wipeR (ρ : Rho) : List Nat → Rho
  | [] => ρ
  | v :: vs => (wipeR ρ vs).set v none
def noEr {α : Type} (r : Res α) : Res α := match r with
  | .er _ _ => .bad
  | o => o
def compL (deps : Deps) (t : T3) (test : TV) (elt : EV) (ρ : Rho) : List D → GH → Res (List D)
  | [], g => if depsOk g deps then .ok [] g else .bad
  | x :: xs, g => if depsOk g deps then (match t.set x ρ with
    | some ρ' => (noEr (test ρ' g)).bind fun b g1 => if b then (noEr (elt ρ' g1)).bind fun y g2 => (compL deps t test elt ρ xs g2).bind fun ys g3 => .ok (y :: ys) g3 else compL deps t test elt ρ xs g1
    | none => .bad) else .bad
def tYes3 : TV := fun _ g => .ok true g
def eComp (src : IV) (t : T3) (test : TV) (elt : EV) (own : List Nat) : EV := fun ρ g => (src ρ g).bind fun s g1 => if s.items.length < 16777216 then (compL s.deps t test elt (wipeR ρ own) s.items g1).bind fun ys g2 => .ok (.ref g2.length) (g2 ++ [.lst ys]) else .bad
/-- a def's body, called -/
def runB (b : SV) (n : Nat) : List D → GH → Res D := fun ds g => match b (ds.map some ++ List.replicate (n - ds.length) none) g with
  | .nx _ g' => .ok .non g'
  | .rt d g' => .ok d g'
  | .er e _ g' => .er e g'
  | _ => .bad

section
variable {X : Cx} {Z : Row} {W : WX} {pos : Pos} {a b c : Expr} {ea eb ecc : EV} {ta tb : TV} {sa sb : SV}
theorem PostS.bind {α β : Type} {R : List Addr → Hp → α → β → Prop} {r : Res α} {ρ : Rho} {k : α → GH → Out} {m : List Addr} {H : Hp} {D : Ends} {σ : L2.St} {Q1 : β → Hp → Prop} (h : PostS Z (bindS r ρ k) m H σ.length D W) (rr : RhoRep Z.K m H ρ σ)
    (kk : ∀ m1 H1 d v g, Ext m H m1 H1 → S Z.K Z.T m1 g H1 → R m1 H1 d v → PostS Z (k d g) m1 H1 σ.length D W → Q1 v H1) : Post Z.K Z.T R r m H Q1 (WofX Z W σ) := by
  cases r with
  | ok d g => exact fun m1 H1 v e s r1 => kk m1 H1 d v g e s r1 (PostS.ext (o := k d g) h e)
  | er x g => exact fun m1 H1 e s cls d er => h m1 H1 σ cls d e s rfl (rr.mono e) er
  | bad => exact h
theorem pss3_nil : PSs X [] (tS Z sNil W) := pss_nil.imp fun D σ H _ ⟨m, g, ρ, s, r, h⟩ => h m H σ .refl s rfl r
theorem pss3_cons {st : Stmt} {rest : List Stmt} (h1 : PS X st (tS Z sa W)) (h2 : PSs X rest (tS Z sb W)) : PSs X (st :: rest) (tS Z (sSeq sa sb) W) :=
  (pss_cons h1 h2).imp fun D σ H _ ⟨m, g, ρ, s, r, h⟩ => ⟨m, g, ρ, s, r, by
    unfold sSeq at h
    cases e : sa ρ g with
    | nx ρ' g' =>
      rw [e] at h
      exact fun m' H' σ' e1 s1 hl r1 => ⟨m', g', ρ', s1, r1, by rw [hl]; exact PostS.ext h e1⟩
    | rt d g' => rw [e] at h; exact h
    | bk ρ' g' => rw [e] at h; exact h
    | ct ρ' g' => rw [e] at h; exact h
    | er x ρ' g' => rw [e] at h; exact h
    | bad => rw [e] at h; exact h⟩
theorem pss3_one {st : Stmt} (h1 : PS X st (tS Z sa W)) : PSs X [st] (tS Z sa W) := pss_one h1
theorem ps3_pass : PS X (.Pass pos) (tS Z sNil W) := ps_pass.imp fun D σ H _ ⟨m, g, ρ, s, r, h⟩ => h m H σ .refl s rfl r
theorem ps3_brk : PS X (.Break pos) (tS Z sBrk W) := ps_break.imp fun D σ H _ ⟨m, g, ρ, s, r, h⟩ => h m H σ .refl s rfl r
theorem ps3_cnt : PS X (.Continue pos) (tS Z sCnt W) := ps_continue.imp fun D σ H _ ⟨m, g, ρ, s, r, h⟩ => h m H σ .refl s rfl r
theorem ps3_doc {x j pos'} : PS X (.Expr (.Constant (.str x) j pos) pos') (tS Z sNil W) := ps_doc.imp fun D σ H _ ⟨m, g, ρ, s, r, h⟩ => h m H σ .refl s rfl r
theorem ps3_never {st : Stmt} : PS X st (tS Z (fun _ _ => .bad) W) := (ps_never (X := X) (st := st)).imp fun D σ H _ ⟨m, g, ρ, s, r, h⟩ => h.elim
theorem tgt_out {t : T3} {d : D} {v : V} {m : List Addr} {H : Hp} {g : GH} {ρ : Rho} {σ : L2.St} {D : Ends} (s : S Z.K Z.T m g H) (r : RhoRep Z.K m H ρ σ) (r1 : DRep Z.K m H d v) (hs : ∀ i ∈ t.slots, i < σ.length)
    (h : PostS Z (match t.set d ρ with | some ρ' => .nx ρ' g | none => .bad) m H σ.length D W) : gOf Z.K.K t v σ H D.nx := by
  split at h
  · rename_i ρ' e
    exact T3.run r r1 e hs fun σ' hl r2 _ => h m H σ' .refl s hl r2
  · exact h.elim
theorem ps3_asg {t : T3} {tg e : Expr} (hK : Z.K = X.kw) (he : PE X e (tE Z ea W)) (hg : PG X tg (gOf X.K t)) (ht : ∀ i ∈ t.slots, i < X.N.length) (hs : swapsWithSole [tg] e pos.line X.env = pure false := by rfl) (hw : swappedStores [tg] e X.env = pure none := by rfl) (h1 : (assignEach [tg] X.env).map (·.2) = [assign tg X.env] := by rfl) :
    PS X (.Assign [tg] e pos) (tS Z (sAsg t ea) W) := by
  obtain ⟨K, T, ec⟩ := Z
  obtain rfl : K = X.kw := hK
  exact (ps_asg he hg hs hw h1).imp fun D σ H hl ⟨m, g, ρ, s, r, h⟩ => ⟨m, g, ρ, s, r, PostS.bind h r fun m1 H1 d v g1 e1 s1 r1 h1 => tgt_out s1 (r.mono e1) r1 (by rw [hl]; exact ht) h1⟩
theorem ps3_set {i : Nat} {x : Str} {e : Expr} {pos' : Pos} (hN : X.N.Nodup) (hi : X.N[i]? = some x) (hx : Loc X.env.scope x) (he : PE X e (tE Z ea W)) (hs : swapsWith e (some (.Name x pos')) pos.line X.env = pure false := by rfl)
    (hf : X.fn x = true ∨ X.env.scope.names.lookup x = some .local := by first | exact .inl rfl | exact .inr rfl) : PS X (.Assign [.Name x pos'] e pos) (tS Z (sAsg (.one i) ea) W) :=
  (ps_set hN hi hx he hs hf).imp fun D σ H hl ⟨m, g, ρ, s, r, h⟩ => ⟨m, g, ρ, s, r, PostS.bind h r fun m1 H1 d v g1 e1 s1 r1 h1 =>
    h1 m1 H1 _ .refl s1 (by simp) ((r.mono e1).set (by rw [hl]; exact (List.getElem?_eq_some_iff.mp hi).1) r1)⟩
theorem ps3_par {i j : Nat} {x y : Str} {px py pt : Pos} {kt k2 pt2} (hc : X.calm = true) (hN : X.N.Nodup) (hi : X.N[i]? = some x) (hj : X.N[j]? = some y) (hij : i ≠ j) (hx : X.env.scope.names.lookup x = some .local) (hy : X.env.scope.names.lookup y = some .local)
    (ha : PE X a (tE Z ea W)) (hb : PE X b (tE Z eb W)) (hw : swappedStores [.Tuple [.Name x px, .Name y py] kt pt] (.Tuple [a, b] k2 pt2) X.env = pure (some [x, y]) := by rfl)
    (hse : starEach [a, b] X.env = (false, eval a X.env) :: starEach [b] X.env := by rfl) (hse2 : starEach [b] X.env = (false, eval b X.env) :: starEach [] X.env := by rfl) :
    PS X (.Assign [.Tuple [.Name x px, .Name y py] kt pt] (.Tuple [a, b] k2 pt2) pos) (tS Z (sPar i j ea eb) W) :=
  (ps_par hc hN hi hj hij hx hy (pa_cons ha (pa_cons hb pa_nil hse2) hse) hw).imp fun D σ H hl ⟨m, g, ρ, s, r, h⟩ => ⟨m, g, ρ, s, r, PostS.bind h r fun m1 H1 d v g1 e1 s1 r1 h1 =>
    ⟨m1, g1, ρ, s1, r.mono e1, PostS.bind h1 (r.mono e1) fun m2 H2 e u g2 e2 s2 r2 h2 => ⟨v, u, rfl, h2 m2 H2 _ .refl s2 (by simp) ((((r.mono e1).mono e2).set (by rw [hl]; exact (List.getElem?_eq_some_iff.mp hi).1) (r1.mono e2)).set (by rw [List.length_set, hl]; exact (List.getElem?_eq_some_iff.mp hj).1) r2)⟩⟩⟩
theorem ps3_exp {e : Expr} (he : PE X e (tE Z ea W)) (hs : swapsWith e none pos.line X.env = pure false := by rfl) : PS X (.Expr e pos) (tS Z (sExp ea) W) :=
  (ps_expr he hs).imp fun D σ H hl ⟨m, g, ρ, s, r, h⟩ => ⟨m, g, ρ, s, r, PostS.bind h r fun m1 H1 d v g1 e1 s1 r1 h1 => h1 m1 H1 σ .refl s1 rfl (r.mono e1)⟩
theorem ps3_ret {e : Expr} (he : PE X e (tE Z ea W)) : PS X (.Return (some e) pos) (tS Z (sRet ea) W) :=
  (ps_ret he).imp fun D σ H hl ⟨m, g, ρ, s, r, h⟩ => ⟨m, g, ρ, s, r, PostS.bind h r fun m1 H1 d v g1 e1 s1 r1 h1 => h1 m1 H1 v .refl s1 r1⟩
theorem ps3_if {t f : List Stmt} (hc : PT X c (tT Z ta W)) (ha : PSs X t (tS Z sa W)) (hb : PSs X f (tS Z sb W)) : PS X (.If c t f pos) (tS Z (sIf ta sa sb) W) :=
  (ps_if hc ha hb).imp fun D σ H hl ⟨m, g, ρ, s, r, h⟩ => ⟨m, g, ρ, s, r, PostS.bind h r fun m1 H1 k v g1 e1 s1 r1 h1 => by
    cases r1
    cases k with
    | true => rw [if_pos rfl] at h1 ⊢; exact ⟨m1, g1, ρ, s1, r.mono e1, h1⟩
    | false => rw [if_neg Bool.false_ne_true] at h1 ⊢; exact ⟨m1, g1, ρ, s1, r.mono e1, h1⟩⟩
/-- raise X("..") -/
theorem ps3_raise {C : Addr} {B newId initId : String} {bmB : List Value} {cI : Nat} {x mm : Str} {j : Nat} {p p2 pos2 : Pos} (hc : X.calm = true) (tk : Takes X W) (F : ExcBaseFacts B newId initId bmB) (q : PySem.W.excIn X.K C bmB newId = true) (gC : X.mg x = some (.ref C))
    (kC : PySem.W.keepIn X.K (.ref C) = true) (rr : Raises X (.ref C)) (hg : Gl X x) (hE : Z.ec cI = C) (hdb : (x == ("__debug__" : Str)) = false := by decide) :
    PS X (.Raise (some (.Call (.Name x p) [.Constant (.str mm) j p2] [] pos)) none pos2) (tS Z (sRaise cI) W) :=
  (ps_raise hc tk (pmk_own F q gC kC rr hg hdb)).imp fun D σ H hl ⟨m, g, ρ, s, r, h⟩ => h m H σ _ _ .refl s rfl r ⟨by rw [hE], rfl⟩
end

/-! ### walks -/
/-- the walk J yields the items of s, as long as the lists it hangs on stand -/
def JRep (K : KW) (T : List (Addr × Str)) (m0 : List Addr) (H0 : Hp) (s : Src) (J : It) : Prop := ∀ (i : Nat) (m : List Addr) (g : GH) (H : Hp), Ext m0 H0 m H → S K T m g H → depsOk g s.deps = true →
  (i = s.items.length → J.stop i H) ∧ (i < s.items.length → J.go i H ∧ ∀ x H', J.yld i H x H' → ∃ d, s.items[i]? = some d ∧ Ext m H m H' ∧ S K T m g H' ∧ DRep K m H' d x)
def tI3 (Z : Row) (iv : IV) (W : WX) : TI := fun σ H R => ∃ m g ρ, S Z.K Z.T m g H ∧ RhoRep Z.K m H ρ σ ∧ Post Z.K Z.T (fun m H => JRep Z.K Z.T m H) (iv ρ g) m H R (WofX Z W σ)
section
variable {X : Cx} {Z : Row} {W : WX} {pos : Pos} {tg a b : Expr} {ea eb : EV}
theorem PI.imp {it : Expr} {w w' : TI} (h : PI X tg it w) (k : ∀ σ H R, w' σ H R → w σ H R) : PI X tg it w' := ⟨fun pins s σ H R I q => h.run pins s σ H R I (k σ H R q)⟩
theorem PI.either {it : Expr} {w1 w2 w' : TI} (h1 : PI X tg it w1) (h2 : PI X tg it w2) (k : ∀ σ H R, w' σ H R → w1 σ H R ∨ w2 σ H R) : PI X tg it w' := ⟨fun pins s σ H R I q => by
  rcases k σ H R q with q | q
  · exact h1.run pins s σ H R I q
  · exact h2.run pins s σ H R I q⟩
theorem jrep_list {K : KW} {T : List (Addr × Str)} {m0 : List Addr} {H0 : Hp} {i0 : Nat} {a0 : Addr} {ds : List D} (h0 : m0[i0]? = some a0) : JRep K T m0 H0 ⟨[(i0, ds)], ds⟩ (Itl K.K a0) := by
  intro i m g H e s hd
  have h1 := depsOk_mem hd List.mem_cons_self
  obtain ⟨o, h2, xs, h3, h4⟩ : ∃ o, g[i0]? = some o ∧ ∃ xs, H a0 = some (.lst xs) ∧ DReps K m H ds xs := by
    obtain ⟨o, h2, h3⟩ := s.at (e.get h0)
    rw [h1] at h2; cases h2
    exact ⟨_, h1, h3⟩
  refine ⟨fun hi => ⟨xs, SqL.of h3, by rw [hi]; show xs.length ≤ ds.length; rw [h4.length]; exact Nat.le_refl _⟩, fun hi => ⟨⟨xs, xs[i]'(by rw [← h4.length]; exact hi), SqL.of h3, by simp⟩, fun x H' y => ?_⟩⟩
  obtain ⟨eH, y⟩ := y
  subst eH
  obtain ⟨d, h5, h6⟩ := h4.get' (y xs (SqL.of h3))
  exact ⟨d, h5, .refl, s, h6⟩
theorem jrep_ro {K : KW} {T : List (Addr × Str)} {m0 : List Addr} {H0 : Hp} {a0 : Addr} {ds : List D} {xs : List V} (h3 : RoL K.K H0 a0 xs) (h4 : DReps K m0 H0 ds xs) : JRep K T m0 H0 ⟨[], ds⟩ (Itl K.K a0) := by
  intro i m g H e s hd
  have h3 := (roL_keep (K := K) e.frzs h3).sql
  have h4 := DReps.mono e _ _ h4
  refine ⟨fun hi => ⟨xs, h3, by rw [hi]; show xs.length ≤ ds.length; rw [h4.length]; exact Nat.le_refl _⟩, fun hi => ⟨⟨xs, xs[i]'(by rw [← h4.length]; exact hi), h3, by simp⟩, fun x H' y => ?_⟩⟩
  obtain ⟨eH, y⟩ := y
  subst eH
  obtain ⟨d, h5, h6⟩ := h4.get' (y xs h3)
  exact ⟨d, h5, .refl, s, h6⟩
theorem jrep_tup {K : KW} {T : List (Addr × Str)} {m0 : List Addr} {H0 : Hp} {a0 : Addr} {ds : List D} {xs : List V} (h3 : SqT K.K H0 a0 xs) (h4 : DReps K m0 H0 ds xs) : JRep K T m0 H0 ⟨[], ds⟩ (Itt K.K a0) := by
  intro i m g H e s hd
  have h3 := sqT_keep (K := K) e.tups e.frzs h3
  have h4 := DReps.mono e _ _ h4
  refine ⟨fun hi => ⟨xs, h3, by rw [hi]; show xs.length ≤ ds.length; rw [h4.length]; exact Nat.le_refl _⟩, fun hi => ⟨⟨xs, xs[i]'(by rw [← h4.length]; exact hi), h3, by simp⟩, fun x H' y => ?_⟩⟩
  obtain ⟨eH, y⟩ := y
  subst eH
  obtain ⟨d, h5, h6⟩ := h4.get' (y xs h3)
  exact ⟨d, h5, .refl, s, h6⟩
theorem jrep_rng {K : KW} {T : List (Addr × Str)} {m0 : List Addr} {H0 : Hp} {a b : Int} : JRep K T m0 H0 ⟨[], rangeD a b⟩ (Itr a (b - a).toNat) := by
  intro i m g H e s hd
  have hl : (rangeD a b).length = (b - a).toNat := by unfold rangeD; simp
  refine ⟨fun hi => by show (b - a).toNat ≤ i; rw [hi, ← hl]; exact Nat.le_refl _, fun hi => ⟨by show i < (b - a).toNat; rw [← hl]; exact hi, fun x H' y => ?_⟩⟩
  obtain ⟨eH, y⟩ := y
  subst eH
  subst y
  have hi' : i < (b - a).toNat := by rw [← hl]; exact hi
  refine ⟨.int (a + (i : Nat)), ?_, .refl, s, D.mk_int⟩
  show (rangeD a b)[i]? = _
  unfold rangeD
  rw [List.getElem?_map, List.getElem?_range hi']
  rfl
theorem pi3_seq (hK : Z.K = X.kw) (ha : PE X a (tE Z ea W)) : PI X tg a (tI3 Z (iSeq ea) W) := by
  obtain ⟨K, T, ec⟩ := Z
  obtain rfl : K = X.kw := hK
  refine PI.either (pi_list ha) (pi_tup ha) fun σ H R ⟨m, g, ρ, s, r, h⟩ => ?_
  unfold iSeq at h
  cases e : ea ρ g with
  | bad => rw [e] at h; exact h.elim
  | er x g1 => rw [e] at h; exact .inl ⟨m, g, ρ, s, r, by rw [e]; exact h⟩
  | ok d g1 =>
    rw [e] at h
    simp only [Res.bind_ok] at h
    split at h
    · rename_i ds
      refine .inr ⟨m, g, ρ, s, r, ?_⟩
      rw [e]
      intro m1 H1 v e1 s1 r1
      obtain ⟨p, xs, rfl, h1, h2⟩ := ix_tup_l r1
      exact ⟨p, rfl, ⟨xs, h1⟩, h m1 H1 (Itt X.K p) e1 s1 (jrep_tup h1 h2)⟩
    · rename_i ds
      refine .inl ⟨m, g, ρ, s, r, ?_⟩
      rw [e]
      intro m1 H1 v e1 s1 r1
      have r1' : DRep X.kw m1 H1 (.rol ds) v := r1
      rw [DRep] at r1'
      obtain ⟨p, xs, rfl, h1, h2⟩ := r1'
      exact ⟨p, rfl, ⟨xs, h1.sql⟩, h m1 H1 (Itl X.K p) e1 s1 (jrep_ro h1 h2)⟩
    · split at h
      · rename_i ds e2
        refine .inl ⟨m, g, ρ, s, r, ?_⟩
        rw [e]
        intro m1 H1 v e1 s1 r1
        obtain ⟨p, xs, rfl, hm, h1, h2⟩ := lst_at s1 r1 e2
        exact ⟨p, rfl, ⟨xs, SqL.of h1⟩, h m1 H1 (Itl X.K p) e1 s1 (jrep_list hm)⟩
      · exact h.elim
    · exact h.elim
theorem pi3_rg1 {p : Pos} (hg : Gl X "range") (hm : X.mg "range" = none) (ha : PE X a (tE Z ea W)) (hs : starEach [a] X.env = [(false, eval a X.env)] := by rfl) : PI X tg (.Call (.Name "range" p) [a] [] pos) (tI3 Z (iRg1 ea) W) :=
  PI.imp (pi_range1 hg hm (pa_cons ha pa_nil hs) hs) fun σ H R ⟨m, g, ρ, s, r, h⟩ => ⟨m, g, ρ, s, r, Post.bind h fun m1 H1 d v g1 e1 s1 r1 h1 => by
    split at h1
    · rename_i n
      split at h1
      · rename_i hn
        cases D.int_inv r1
        refine ⟨n, rfl, by have := hn.1; omega, by have := hn.2; omega, ?_⟩
        have hj := jrep_rng (K := Z.K) (T := Z.T) (m0 := m1) (H0 := H1) (a := 0) (b := n)
        rw [Int.sub_zero] at hj
        exact h1 m1 H1 _ .refl s1 hj
      · exact h1.elim
    · exact h1.elim⟩
theorem pi3_rg2 {p : Pos} (hg : Gl X "range") (hm : X.mg "range" = none) (ha : PE X a (tE Z ea W)) (hb : PE X b (tE Z eb W)) (hs : starEach [a, b] X.env = [(false, eval a X.env), (false, eval b X.env)] := by rfl) (hs2 : starEach [b] X.env = [(false, eval b X.env)] := by rfl) :
    PI X tg (.Call (.Name "range" p) [a, b] [] pos) (tI3 Z (iRg2 ea eb) W) :=
  PI.imp (pi_range2 hg hm (pa_cons ha (pa_cons hb pa_nil hs2) (by rw [hs, hs2])) hs hs2) fun σ H R ⟨m, g, ρ, s, r, h⟩ => ⟨m, g, ρ, s, r, Post.bind h fun m1 H1 d v g1 e1 s1 r1 h1 =>
    ⟨m1, g1, ρ, s1, r.mono e1, Post.bind h1 fun m2 H2 e u g2 e2 s2 r2 h2 => by
      split at h2
      · rename_i n k
        split at h2
        · rename_i hn
          cases D.int_inv r1
          cases D.int_inv r2
          exact ⟨n, k, rfl, ⟨by have := hn.1; omega, by have := hn.2.1; omega, by have := hn.2.2.1; omega, by have := hn.2.2.2; omega⟩, h2 m2 H2 _ .refl s2 jrep_rng⟩
        · exact h2.elim
      · exact h2.elim⟩⟩
theorem ps3_for {iv : IV} {t : T3} {sb : SV} {iter : Expr} {body : List Stmt} (hK : Z.K = X.kw) (hp : PassesOwn (model X.prog X.w) X.A X.env X.xe) (hc : X.calm = true) (hi : PI X tg iter (tI3 Z iv W)) (hg : PG X tg (gOf X.K t)) (ht : ∀ i ∈ t.slots, i < X.N.length)
    (hb : PSs X body (tS Z sb W)) (hs : ∀ x, foldedSetIterable iter X.env x = pure x := by intro _; rfl) : PS X (.For tg iter body [] pos) (tS Z (sFor iv t sb) W) := by
  obtain ⟨K, T, ec⟩ := Z
  obtain rfl : K = X.kw := hK
  refine (ps_for hp hc hi hg hb hs).imp fun D σ H hl ⟨m, g, ρ, s, r, h⟩ => ⟨m, g, ρ, s, r, PostS.bind h r fun m1 H1 src J g1 e1 s1 j1 h1 => ?_⟩
  refine ⟨fun i mm σ2 H2 => i ≤ src.items.length ∧ mm = src.items.length - i ∧ ∃ m2 g2 ρ2, Ext m1 H1 m2 H2 ∧ S X.kw T m2 g2 H2 ∧ RhoRep X.kw m2 H2 ρ2 σ2 ∧ σ2.length = σ.length ∧ PostS ⟨X.kw, T, ec⟩ (forL src.deps (stepOf t sb) (src.items.drop i) ρ2 g2) m2 H2 σ.length D W,
    ⟨_, Nat.zero_le _, rfl, m1, g1, ρ, .refl, s1, r.mono e1, rfl, h1⟩, ?_⟩
  rintro i mm σ2 H2 ⟨hi, rfl, m2, g2, ρ2, e2, s2, r2, l2, h2⟩
  by_cases hlt : i < src.items.length
  · right
    rw [List.drop_eq_getElem_cons hlt] at h2
    unfold forL at h2
    split at h2
    · rename_i hd
      obtain ⟨go, yld⟩ := (j1 i m2 g2 H2 e2 s2 hd).2 hlt
      refine ⟨go, fun σ' H' => ∃ m', m' < src.items.length - i ∧ (i + 1 ≤ src.items.length ∧ m' = src.items.length - (i + 1) ∧ ∃ m3 g3 ρ3, Ext m1 H1 m3 H' ∧ S X.kw T m3 g3 H' ∧ RhoRep X.kw m3 H' ρ3 σ' ∧ σ'.length = σ.length ∧ PostS ⟨X.kw, T, ec⟩ (forL src.deps (stepOf t sb) (src.items.drop (i + 1)) ρ3 g3) m3 H' σ.length D W),
        fun σ' H' q => q, fun x H3 y => ?_⟩
      obtain ⟨d, hd1, e3, s3, r3⟩ := yld x H3 y
      have hd2 : src.items[i] = d := by
        rw [List.getElem?_eq_getElem hlt] at hd1
        exact Option.some.inj hd1
      rw [hd2] at h2
      unfold stepOf at h2
      cases et : t.set d ρ2 with
      | none => rw [et] at h2; exact h2.elim
      | some ρ3 =>
        rw [et] at h2
        refine T3.run (r2.mono e3) r3 et (by rw [l2, hl]; exact ht) fun σ3 l3 r4 _ => ?_
        refine ⟨m2, g2, ρ3, s3, r4, ?_⟩
        have again : ∀ ρ4 g4, PostS ⟨X.kw, T, ec⟩ (forL src.deps (stepOf t sb) (src.items.drop (i + 1)) ρ4 g4) m2 H2 σ.length D W → ∀ m4 H4 σ4, Ext m2 H3 m4 H4 → S X.kw T m4 g4 H4 → σ4.length = σ3.length → RhoRep X.kw m4 H4 ρ4 σ4 →
            ∃ m', m' < src.items.length - i ∧ (i + 1 ≤ src.items.length ∧ m' = src.items.length - (i + 1) ∧ ∃ m3 g3 ρ3, Ext m1 H1 m3 H4 ∧ S X.kw T m3 g3 H4 ∧ RhoRep X.kw m3 H4 ρ3 σ4 ∧ σ4.length = σ.length ∧ PostS ⟨X.kw, T, ec⟩ (forL src.deps (stepOf t sb) (src.items.drop (i + 1)) ρ3 g3) m3 H4 σ.length D W) :=
          fun ρ4 g4 q m4 H4 σ4 e4 s4 l4 r4 => ⟨_, by omega, hlt, rfl, m4, g4, ρ4, (e2.trans e3).trans e4, s4, r4, by rw [l4, l3, l2], PostS.ext q (e3.trans e4)⟩
        change PostS ⟨X.kw, T, ec⟩ (sb ρ3 g2) m2 H3 σ3.length _ W
        change PostS ⟨X.kw, T, ec⟩ (match sb ρ3 g2 with
          | .nx ρ' g' => forL src.deps (stepOf t sb) (src.items.drop (i + 1)) ρ' g'
          | .ct ρ' g' => forL src.deps (stepOf t sb) (src.items.drop (i + 1)) ρ' g'
          | .bk ρ' g' => .nx ρ' g'
          | o => o) m2 H2 σ.length D W at h2
        rw [l3, l2]
        cases eb : sb ρ3 g2 with
        | nx ρ4 g4 => rw [eb] at h2; exact fun m4 H4 σ4 e4 s4 l4 r4 => again ρ4 g4 h2 m4 H4 σ4 e4 s4 (by rw [l4, l3, l2]) r4
        | ct ρ4 g4 => rw [eb] at h2; exact fun m4 H4 σ4 e4 s4 l4 r4 => again ρ4 g4 h2 m4 H4 σ4 e4 s4 (by rw [l4, l3, l2]) r4
        | bk ρ4 g4 => rw [eb] at h2; exact PostS.ext (o := .nx ρ4 g4) h2 e3
        | rt d g4 => rw [eb] at h2; exact PostS.ext (o := .rt d g4) h2 e3
        | er x ρ4 g4 => rw [eb] at h2; exact PostS.ext (o := .er x ρ4 g4) h2 e3
        | bad => rw [eb] at h2; exact h2
    · exact h2.elim
  · left
    have hi2 : i = src.items.length := by omega
    subst hi2
    rw [List.drop_length] at h2
    unfold forL at h2
    split at h2
    · rename_i hd
      exact ⟨(j1 _ m2 g2 H2 e2 s2 hd).1 rfl, h2 m2 H2 σ2 .refl s2 l2 r2⟩
    · exact h2.elim
theorem ps3_while (n : Nat) {ta : TV} {sb : SV} {c : Expr} {body : List Stmt} (hp : PassesOwn (model X.prog X.w) X.A X.env X.xe) (hc : PT X c (tT Z ta W)) (hb : PSs X body (tS Z sb W)) : PS X (.While c body [] pos) (tS Z (whileL ta sb n) W) := by
  refine (ps_while hp hc hb).imp fun D σ H hl ⟨m, g, ρ, s, r, h⟩ => ?_
  refine ⟨fun mm σ2 H2 => ∃ m2 g2 ρ2, S Z.K Z.T m2 g2 H2 ∧ RhoRep Z.K m2 H2 ρ2 σ2 ∧ σ2.length = σ.length ∧ PostS Z (whileL ta sb mm ρ2 g2) m2 H2 σ.length D W, ⟨n, m, g, ρ, s, r, rfl, h⟩, ?_⟩
  rintro mm σ2 H2 ⟨m2, g2, ρ2, s2, r2, l2, h2⟩
  cases mm with
  | zero => exact h2.elim
  | succ mm =>
    unfold whileL at h2
    rw [← l2] at h2
    refine ⟨m2, g2, ρ2, s2, r2, PostS.bind h2 r2 fun m3 H3 k v g3 e3 s3 r3 h3 => ?_⟩
    cases r3
    cases k with
    | false =>
      rw [if_neg Bool.false_ne_true] at h3 ⊢
      exact h3 m3 H3 σ2 .refl s3 rfl (r2.mono e3)
    | true =>
      rw [if_pos rfl] at h3 ⊢
      refine ⟨fun σ' H' => ∃ m', m' < mm + 1 ∧ ∃ m2 g2 ρ2, S Z.K Z.T m2 g2 H' ∧ RhoRep Z.K m2 H' ρ2 σ' ∧ σ'.length = σ.length ∧ PostS Z (whileL ta sb m' ρ2 g2) m2 H' σ.length D W, fun σ' H' q => q, m3, g3, ρ2, s3, r2.mono e3, ?_⟩
      have again : ∀ ρ4 g4, PostS Z (whileL ta sb mm ρ4 g4) m3 H3 σ2.length D W → ∀ m4 H4 σ4, Ext m3 H3 m4 H4 → S Z.K Z.T m4 g4 H4 → σ4.length = σ2.length → RhoRep Z.K m4 H4 ρ4 σ4 →
          ∃ m', m' < mm + 1 ∧ ∃ m2 g2 ρ2, S Z.K Z.T m2 g2 H4 ∧ RhoRep Z.K m2 H4 ρ2 σ4 ∧ σ4.length = σ.length ∧ PostS Z (whileL ta sb m' ρ2 g2) m2 H4 σ.length D W :=
        fun ρ4 g4 q m4 H4 σ4 e4 s4 l4 r4 => ⟨mm, Nat.lt_succ_self _, m4, g4, ρ4, s4, r4, by rw [l4, l2], by rw [← l2]; exact PostS.ext q e4⟩
      cases eb : sb ρ2 g3 with
      | nx ρ4 g4 => rw [eb] at h3; exact again ρ4 g4 h3
      | ct ρ4 g4 => rw [eb] at h3; exact again ρ4 g4 h3
      | bk ρ4 g4 => rw [eb] at h3; exact h3
      | rt d g4 => rw [eb] at h3; exact h3
      | er x ρ4 g4 => rw [eb] at h3; exact h3
      | bad => rw [eb] at h3; exact h3
end
end L3

/-! L3f: comprehensions, stores by place, defs. -/
namespace L3
open PySem PySem.Spec PyProof.Rows L2

section
variable {K : KW} {T : List (Addr × Str)} {m m' : List Addr} {H H' : Hp} {g : GH}
/-- a list that is tracked, but not ours yet, becomes ours -/
theorem S.adopt (s : S K T m g H) {p : Addr} {ds : List D} {xs : List V} (hp : H p = some (.lst xs)) (np : p ∉ m) (r : DReps K m H ds xs) : S K T (m ++ [p]) (g ++ [.lst ds]) H := by
  have hm : ∀ (i : Nat) a, m[i]? = some a → (m ++ [p])[i]? = some a := fun i a h => by
    rw [List.getElem?_append_left (List.getElem?_eq_some_iff.mp h).1]; exact h
  refine ⟨?_, by simp [s.len], fun i a q h1 h2 => ?_, s.tab⟩
  · rw [List.nodup_append]
    refine ⟨s.nod, by simp, fun a ha b hb => ?_⟩
    simp at hb
    subst hb
    rintro rfl
    exact np ha
  · by_cases hi : i < m.length
    · rw [List.getElem?_append_left hi] at h1
      rw [List.getElem?_append_left (by rw [← s.len]; exact hi)] at h2
      exact (s.obj i a q h1 h2).mono0 hm (fun _ _ h => h) (fun _ _ _ h => h) fun _ h => h
    · have hi2 : i = m.length := by
        have := (List.getElem?_eq_some_iff.mp h1).1
        simp at this
        omega
      subst hi2
      have e1 : p = a := by simpa using h1
      have e2 : GO.lst ds = q := by rw [s.len] at h2; simpa using h2
      rw [← e1, ← e2]
      exact ⟨xs, hp, DReps.mono0 hm (fun _ _ h => h) (fun _ _ _ h => h) _ _ r⟩
/-- a list that is tracked, but not ours, is changed -/
theorem S.other (s : S K T m g H) {p : Addr} {xs ys : List V} (hp : H p = some (.lst xs)) (np : p ∉ m) : S K T m g (upd H p (.lst ys)) ∧ (∀ d v, DRep K m H d v → DRep K m (upd H p (.lst ys)) d v) ∧ ∀ ds vs, DReps K m H ds vs → DReps K m (upd H p (.lst ys)) ds vs := by
  have ht : ∀ b zs, H b = some (.tup zs) → upd H p (.lst ys) b = some (.tup zs) := fun b zs h => by rw [upd_ne]; exact h; rintro rfl; rw [hp] at h; cases h
  have hf : ∀ b o u, H b = some (.frz o u) → upd H p (.lst ys) b = some (.frz o u) := fun b o u h => by rw [upd_ne]; exact h; rintro rfl; rw [hp] at h; cases h
  refine ⟨⟨s.nod, s.len, fun i a o h1 h2 => ?_, tabs_keep s.tab fun b o h n => ?_⟩, DRep.mono0 (fun _ _ h => h) ht hf, DReps.mono0 (fun _ _ h => h) ht hf⟩
  · refine (s.obj i a o h1 h2).mono0 (fun _ _ h => h) ht hf fun u h => ?_
    rw [upd_ne]
    · exact h
    · rintro rfl
      exact np (List.mem_of_getElem? h1)
  · rw [upd_ne]
    · exact h
    · rintro rfl
      rw [hp] at h
      cases h
      exact n trivial
theorem RhoRep.wipe {ρ : Rho} {σ : L2.St} (r : RhoRep K m H ρ σ) : ∀ vs : List Nat, RhoRep K m H (wipeR ρ vs) (L2.wipe σ vs)
  | [] => r
  | v :: vs => fun i d h => by
    have ih := RhoRep.wipe r vs
    unfold wipeR at h
    unfold L2.wipe
    by_cases hi : v = i
    · subst hi
      by_cases hv : v < (wipeR ρ vs).length
      · rw [List.getElem?_set_self hv] at h; cases h
      · rw [List.getElem?_eq_none (by simpa using hv)] at h; cases h
    · rw [List.getElem?_set_ne hi] at h ⊢
      exact ih i d h
end

theorem wipe_get (σ : L2.St) (i : Nat) : ∀ vs : List Nat, (L2.wipe σ vs)[i]? = if i ∈ vs ∧ i < σ.length then some none else σ[i]?
  | [] => by simp [L2.wipe]
  | v :: vs => by
    unfold L2.wipe
    by_cases hv : v = i
    · subst hv
      by_cases hl : v < σ.length
      · rw [List.getElem?_set_self (by rw [L2.wipe_length]; exact hl), if_pos ⟨List.mem_cons_self, hl⟩]
      · rw [List.getElem?_eq_none (by rw [List.length_set, L2.wipe_length]; omega), if_neg (fun z => hl z.2), List.getElem?_eq_none (by omega)]
    · rw [List.getElem?_set_ne hv, wipe_get σ i vs]
      have : i ∈ v :: vs ↔ i ∈ vs := by
        rw [List.mem_cons]
        exact ⟨fun z => z.resolve_left (fun e => hv e.symm), .inr⟩
      simp only [this]
theorem wipe_idem (σ : L2.St) (vs : List Nat) : L2.wipe (L2.wipe σ vs) vs = L2.wipe σ vs := by
  refine List.ext_getElem? fun i => ?_
  rw [wipe_get, wipe_get, L2.wipe_length]
  by_cases h : i ∈ vs ∧ i < σ.length
  · rw [if_pos h, if_pos h]
  · rw [if_neg h, if_neg h]
section
variable {X : Cx} {Z : Row} {W : WX} {pos : Pos} {tg iter elt : Expr} {ee : EV} {tt : TV} {iv : IV} {t : T3} {ifs : List Expr} {scope : Scope} {own : List (Str × Nat)}
theorem noEr_post {α β : Type} {R : List Addr → Hp → α → β → Prop} {r : Res α} {m : List Addr} {H : Hp} {Q : β → Hp → Prop} {W1 W2 : Exc → List Addr → Hp → Prop} (h : Post Z.K Z.T R (noEr r) m H Q W1) : Post Z.K Z.T R r m H Q W2 := by
  cases r with
  | ok d g => exact h
  | er e g => exact h.elim
  | bad => exact h
/-- what the block of a comprehension asks, from the L3 term -/
theorem lc3 {σ : L2.St} {H : Hp} {Q : VK} (hl : σ.length = X.N.length) (hs : ∀ i ∈ t.slots, i < X.N.length) (ho : ∀ i ∈ t.slots, i ∈ own.map (·.2)) (h : tE ⟨X.kw, Z.T, Z.ec⟩ (eComp iv t tt ee (own.map (·.2))) W σ H Q) :
    tLc (tI3 ⟨X.kw, Z.T, Z.ec⟩ iv W) (gOf X.K t) (tT ⟨X.kw, Z.T, Z.ec⟩ tt (fun _ _ _ _ => False)) (tE ⟨X.kw, Z.T, Z.ec⟩ ee (fun _ _ _ _ => False)) (own.map (·.2)) σ H Q := by
  obtain ⟨m, g, ρ, s, r, h⟩ := h
  unfold eComp at h
  refine ⟨m, g, ρ, s, r, Post.bind h fun m1 H1 src J g1 e1 s1 j1 h1 => ?_⟩
  intro D0 hD
  split at h1
  · rename_i hlen
    generalize hvs : own.map (·.2) = vs at *
    -- from turn i on: what is made so far is acc
    refine ⟨fun i mm H2 => i ≤ src.items.length ∧ mm = src.items.length - i ∧ ∃ m2 g2 acc accV, Ext m1 H1 m2 H2 ∧ S X.kw Z.T m2 g2 H2 ∧ H2 D0 = some (.lst accV) ∧ D0 ∉ m2 ∧ DReps X.kw m2 H2 acc accV ∧ acc.length ≤ i ∧
      Post X.kw Z.T (RD ⟨X.kw, Z.T, Z.ec⟩) ((compL src.deps t tt ee (wipeR ρ vs) (src.items.drop i) g2).bind fun ys g3 => .ok (.ref g3.length) (g3 ++ [.lst (acc ++ ys)])) m1 H1 Q (WofX ⟨X.kw, Z.T, Z.ec⟩ W σ), ⟨_, Nat.zero_le _, rfl, ?_⟩, ?_⟩
    · obtain ⟨e2, s2⟩ := s1.laid (u := .lst []) hD
      exact ⟨m1, g1, [], [], e2, s2, upd_same, s1.none_mem hD, by rw [DReps], Nat.le_refl _, h1⟩
    rintro i mm H2 ⟨hi, rfl, m2, g2, acc, accV, e2, s2, hD2, nD, ra, la, h2⟩
    by_cases hlt : i < src.items.length
    · right
      rw [List.drop_eq_getElem_cons hlt] at h2
      unfold compL at h2
      split at h2
      · rename_i hd
        obtain ⟨go, yld⟩ := (j1 i m2 g2 H2 e2 s2 hd).2 hlt
        refine ⟨go, fun H' => ∃ m', m' < src.items.length - i ∧ (i + 1 ≤ src.items.length ∧ m' = src.items.length - (i + 1) ∧ ∃ m2 g2 acc accV, Ext m1 H1 m2 H' ∧ S X.kw Z.T m2 g2 H' ∧ H' D0 = some (.lst accV) ∧ D0 ∉ m2 ∧ DReps X.kw m2 H' acc accV ∧ acc.length ≤ i + 1 ∧
          Post X.kw Z.T (RD ⟨X.kw, Z.T, Z.ec⟩) ((compL src.deps t tt ee (wipeR ρ vs) (src.items.drop (i + 1)) g2).bind fun ys g3 => .ok (.ref g3.length) (g3 ++ [.lst (acc ++ ys)])) m1 H1 Q (WofX ⟨X.kw, Z.T, Z.ec⟩ W σ)), fun H' q => q, fun x H3 y => ?_⟩
        obtain ⟨d, hd1, e3, s3, r3⟩ := yld x H3 y
        have hd2 : src.items[i] = d := by
          rw [List.getElem?_eq_getElem hlt] at hd1
          exact Option.some.inj hd1
        rw [hd2] at h2
        have hD3 : H3 D0 = some (.lst accV) := e3.keep _ _ hD2 nD (fun ps z => by cases z)
        have rr : RhoRep X.kw m2 H3 (wipeR ρ vs) (L2.wipe σ vs) := (((r.mono e1).mono e2).mono e3).wipe vs
        cases et : t.set d (wipeR ρ vs) with
        | none => rw [et] at h2; exact h2.elim
        | some ρ3 =>
          rw [et] at h2
          refine T3.run rr r3 et (by rw [L2.wipe_length, hl]; exact hs) fun σ3 l3 r4 hw => ⟨?_, ?_⟩
          · exact (hw vs ho).trans (wipe_idem σ vs)
          refine ⟨m2, g2, ρ3, s3, r4, ?_⟩
          simp only at h2
          cases ett : tt ρ3 g2 with
          | bad => rw [ett] at h2; exact h2.elim
          | er x g3 => rw [ett] at h2; exact h2.elim
          | ok b g3 =>
            rw [ett] at h2
            intro m4 H4 b' e4 s4 rb
            cases rb
            have hD4 : H4 D0 = some (.lst accV) := e4.keep _ _ hD3 nD (fun ps z => by cases z)
            have nD4 : D0 ∉ m4 := e4.mem hD3 nD (fun ps z => by cases z)
            have ex4 : Ext m1 H1 m4 H4 := (e2.trans e3).trans e4
            cases b with
            | false =>
              rw [if_neg Bool.false_ne_true]
              exact ⟨_, by omega, hlt, rfl, m4, g3, acc, accV, ex4, s4, hD4, nD4, DReps.mono e4 _ _ (DReps.mono e3 _ _ ra), by omega, h2⟩
            | true =>
              rw [if_pos rfl]
              refine ⟨m4, g3, ρ3, s4, r4.mono e4, ?_⟩
              simp only [noEr, Res.bind_ok, if_true] at h2
              cases eee : ee ρ3 g3 with
              | bad => rw [eee] at h2; exact h2.elim
              | er x g3 => rw [eee] at h2; exact h2.elim
              | ok y g5 =>
                rw [eee] at h2
                intro m5 H5 yv e5 s5 ry
                have hD5 : H5 D0 = some (.lst accV) := e5.keep _ _ hD4 nD4 (fun ps z => by cases z)
                have nD5 : D0 ∉ m5 := e5.mem hD4 nD4 (fun ps z => by cases z)
                have ra5 := DReps.mono e5 _ _ (DReps.mono e4 _ _ (DReps.mono e3 _ _ ra))
                obtain ⟨s6, k1, k2⟩ := s5.other (ys := accV ++ [yv]) hD5 nD5
                refine ⟨accV, hD5, by rw [← ra.length, sizeLine_eq]; omega, _, by omega, hlt, rfl, m5, g5, acc ++ [y], accV ++ [yv], ?_, s6, upd_same, nD5, (k2 _ _ ra5).append (by rw [DReps]; exact ⟨yv, [], rfl, k1 _ _ ry, by rw [DReps]⟩), by simp; omega, ?_⟩
                · have ex5 := ex4.trans e5
                  refine ⟨ex5.pre, fun b xs h => ?_, fun b o u h => ?_, fun b o h n nt => ?_, fun b h o q => ?_⟩
                  · rw [upd_ne]; exact ex5.tups b xs h; rintro rfl; rw [hD] at h; cases h
                  · rw [upd_ne]; exact ex5.frzs b o u h; rintro rfl; rw [hD] at h; cases h
                  · rw [upd_ne]; exact ex5.keep b o h n nt; rintro rfl; rw [hD] at h; cases h
                  · by_cases hb : b = D0
                    · rw [hb, hD] at q; cases q
                    · exact ex5.dom b (fun o' q' => h o' (by rw [upd_ne hb]; exact q')) o q
                · simp only [noEr, Res.bind_ok] at h2
                  cases ec : compL src.deps t tt ee (wipeR ρ vs) (src.items.drop (i + 1)) g5 with
                  | bad => rw [ec] at h2; exact h2
                  | er x g6 => rw [ec] at h2; exact h2
                  | ok ys g6 =>
                    rw [ec] at h2
                    simp only [Res.bind_ok] at h2 ⊢
                    rw [List.append_assoc]
                    exact h2
      · exact h2.elim
    · left
      have hi2 : i = src.items.length := by omega
      subst hi2
      rw [List.drop_length] at h2
      unfold compL at h2
      split at h2
      · rename_i hd
        refine ⟨(j1 _ m2 g2 H2 e2 s2 hd).1 rfl, ?_⟩
        simp only [Res.bind_ok, List.append_nil] at h2
        refine h2 (m2 ++ [D0]) H2 (.ref D0) ?_ (s2.adopt hD2 nD ra) ?_
        · obtain ⟨t', et, ht⟩ := e2.pre
          refine ⟨⟨t' ++ [D0], by rw [et, List.append_assoc], fun a ha => ?_⟩, e2.tups, e2.frzs, e2.keep, e2.dom⟩
          rcases List.mem_append.mp ha with ha | ha
          · exact ht a ha
          · simp at ha; rw [ha]; exact fr0_none hD
        · show DRep _ _ _ (.ref g2.length) _
          rw [DRep]
          exact ⟨D0, rfl, by rw [← s2.len]; simp⟩
      · exact h2.elim
  · exact h1.elim
theorem pts3_nil {X : Cx} : PTs X [] (tT Z tYes3 W) := ⟨fun pins s σ H Q I ⟨m, g, ρ, st, r, h⟩ => pts_nil.run pins s σ H Q I (Post.here (d := true) h st rfl)⟩
theorem pts3_one {X : Cx} {c : Expr} (h : PT X c (tT Z tt W)) : PTs X [c] (tT Z tt W) := pts_one h
abbrev WN : WX := fun _ _ _ _ => False
theorem pe3_lc (hK : Z.K = X.kw) (hc : X.calm = true) (hN : X.N.Nodup) (hi : PI X tg iter (tI3 Z iv W)) (ok : BlkOk X.N X.env.scope scope own) (hs : ∀ i ∈ t.slots, i < X.N.length) (ho : ∀ i ∈ t.slots, i ∈ own.map (·.2))
    (hg : ∀ (s : Shared) (H : Hp) (C : Addr) (cl : List (Str × Addr)) (fp : List Addr), PG (X.blk s H scope (compEnvC scope cl C X.env) fp) tg (gOf X.K t))
    (ht : ∀ (s : Shared) (H : Hp) (C : Addr) (cl : List (Str × Addr)) (fp : List Addr), PTs (X.blk s H scope (compEnvC scope cl C X.env) fp) ifs (tT Z tt WN))
    (he : ∀ (s : Shared) (H : Hp) (C : Addr) (cl : List (Str × Addr)) (fp : List Addr), PE (X.blk s H scope (compEnvC scope cl C X.env) fp) elt (tE Z ee WN)) (hf : ∀ x, foldedSetIterable iter X.env x = pure x := by intro _; rfl) :
    PE X (.ListComp elt [⟨tg, iter, ifs, 0⟩] scope pos) (tE Z (eComp iv t tt ee (own.map (·.2))) W) := by
  obtain ⟨K, T, ec⟩ := Z
  obtain rfl : K = X.kw := hK
  exact ⟨fun pins s σ H Q I q => (pe_lc hc hN hi ok hg ht he hf).run pins s σ H Q I (lc3 (Z := ⟨X.kw, T, ec⟩) I.len hs ho q)⟩
theorem ps3_setLc {i : Nat} {y : Str} {py spos : Pos} (hK : Z.K = X.kw) (hc : X.calm = true) (hN : X.N.Nodup) (hy : X.N[i]? = some y) (hyl : X.env.scope.names.lookup y = some .local)
    (hsw : swapsWith (.ListComp elt [⟨tg, iter, ifs, 0⟩] scope pos) (some (.Name y py)) spos.line X.env = pure true) (hi : PI X tg iter (tI3 Z iv W)) (ok : BlkOk X.N X.env.scope scope own) (hs : ∀ i ∈ t.slots, i < X.N.length) (ho : ∀ i ∈ t.slots, i ∈ own.map (·.2))
    (hg : ∀ (s : Shared) (H : Hp) (C : Addr) (cl : List (Str × Addr)) (fp : List Addr), PG (X.blk s H scope (compEnvC scope cl C X.env) fp) tg (gOf X.K t))
    (ht : ∀ (s : Shared) (H : Hp) (C : Addr) (cl : List (Str × Addr)) (fp : List Addr), PTs (X.blk s H scope (compEnvC scope cl C X.env) fp) ifs (tT Z tt WN))
    (he : ∀ (s : Shared) (H : Hp) (C : Addr) (cl : List (Str × Addr)) (fp : List Addr), PE (X.blk s H scope (compEnvC scope cl C X.env) fp) elt (tE Z ee WN)) (hf : ∀ x, foldedSetIterable iter X.env x = pure x := by intro _; rfl) :
    PS X (.Assign [.Name y py] (.ListComp elt [⟨tg, iter, ifs, 0⟩] scope pos) spos) (tS Z (sAsg (.one i) (eComp iv t tt ee (own.map (·.2)))) W) := by
  obtain ⟨K, T, ec⟩ := Z
  obtain rfl : K = X.kw := hK
  refine (ps_setLc hc hN hy hyl hsw hi ok hg ht he hf).imp fun D σ H hl ⟨m, g, ρ, s, r, h⟩ => ?_
  show tLc _ _ _ _ _ σ H fun x H1 => gName i x σ H1 D.nx
  refine lc3 (Z := ⟨X.kw, T, ec⟩) hl hs ho ⟨m, g, ρ, s, r, PostS.bind h r fun m1 H1 d v g1 e1 s1 r1 h1 => ?_⟩
  exact h1 m1 H1 _ .refl s1 (by simp) ((r.mono e1).set (by rw [hl]; exact (List.getElem?_eq_some_iff.mp hy).1) r1)
/-! ### xs[i] = e -/
def opSet (d i e : D) (g : GH) : Option GH := match d, i with
  | .ref k, .int j => match g[k]? with
    | some (.lst ds) => (ixN ds.length j).map fun n => g.set k (.lst (ds.set n e))
    | _ => none
  | _, _ => none
def sSetIx (fs : D → D → D → GH → Option GH) (o i e : EV) : SV := fun ρ g => bindS (e ρ g) ρ fun x g1 => bindS (o ρ g1) ρ fun d g2 => bindS (i ρ g2) ρ fun j g3 => match fs d j x g3 with
  | some g4 => .nx ρ g4
  | none => .bad
def rSet3 (Z : Row) (f : D → D → D → GH → Option GH) : V → V → V → Hp → (Hp → Prop) → Prop := fun o i v H Q => ∃ m g d j x, S Z.K Z.T m g H ∧ DRep Z.K m H d o ∧ DRep Z.K m H j i ∧ DRep Z.K m H x v ∧
  match f d j x g with
  | some g' => ∀ m' H', Ext m H m' H' → S Z.K Z.T m' g' H' → Q H'
  | none => False
theorem set_3 (hK : Z.K = X.kw) : PSet X (rSet3 Z opSet) := by
  obtain ⟨K, T, ec⟩ := Z
  obtain rfl : K = X.kw := hK
  intro pins st σ H o i v ov iv u Q I ro ri rv ⟨m, g, d, j, x, s, hd, hj, hx, h⟩
  unfold opSet at h
  split at h
  · rename_i g' e0
    split at e0
    · cases D.int_inv hj
      split at e0
      · rename_i ds e1
        obtain ⟨p, xs, rfl, hm, h3, h4⟩ := lst_at s hd e1
        cases e2 : ixN ds.length _ with
        | none => rw [e2] at e0; cases e0
        | some n =>
          rw [e2] at e0
          cases e0
          refine set_list pins st σ H _ _ v ov iv u Q I ro ri rv ⟨p, xs, _, n, rfl, rfl, h3, by rw [← h4.length]; exact e2, ?_⟩
          have ex := s.putE (u := .lst (xs.set n v)) hm h3 trivial
          obtain ⟨e6, s6⟩ := s.put (o := .lst (ds.set n x)) hm h3 trivial ⟨_, upd_same, DReps.mono ex _ _ (h4.set n hx)⟩
          exact h m _ e6 s6
      · cases e0
    · cases e0
  · exact h.elim
theorem ps3_setIx {o i e : Expr} {eo ei ev : EV} {tpos : Pos} {fs : D → D → D → GH → Option GH} (he : PE X e (tE Z ev W)) (hpl : PG X (.Subscript o i tpos) (gSub (tE Z eo W) (tE Z ei W) (rSet3 Z fs)))
    (hs : swapsWithSole [.Subscript o i tpos] e pos.line X.env = pure false := by rfl) (hw : swappedStores [.Subscript o i tpos] e X.env = pure none := by rfl) (h1 : (assignEach [.Subscript o i tpos] X.env).map (·.2) = [assign (.Subscript o i tpos) X.env] := by rfl) :
    PS X (.Assign [.Subscript o i tpos] e pos) (tS Z (sSetIx fs eo ei ev) W) :=
  (ps_asg he hpl hs hw h1).imp fun D σ H hl ⟨m, g, ρ, s, r, h⟩ => ⟨m, g, ρ, s, r, PostS.bind h r fun m1 H1 x v g1 e1 s1 r1 h1 =>
    ⟨m1, g1, ρ, s1, r.mono e1, PostS.bind h1 (r.mono e1) fun m2 H2 d u g2 e2 s2 r2 h2 => ⟨m2, g2, ρ, s2, (r.mono e1).mono e2, PostS.bind h2 ((r.mono e1).mono e2) fun m3 H3 j w g3 e3 s3 r3 h3 =>
      ⟨m3, g3, d, j, x, s3, r2.mono e3, r3, (r1.mono e2).mono e3, by
        split at h3
        · rename_i g4 e4
          exact fun m' H' e5 s5 => h3 m' H' σ e5 s5 rfl ((((r.mono e1).mono e2).mono e3).mono e5)
        · exact h3.elim⟩⟩⟩⟩
end

/-! ### defs -/
theorem fn3 {P : Program} {w : World} {K : PySem.W.Frag} {mg : Str → Option Value} {base : Heap} {Z : Row} {x qual : Str} {st : Stmt} {f : Addr} {fd : FuncData} {N ps : List Str} {k n : Nat} {b : SV} (F : Fun K x qual st f fd) (Sc : FnScope N ps (defScope st)) (hn : ps.length = n)
    (hbody : ∀ (cdv : Value) (A : Around) (outer : List Env) (s : Shared) (H : Hp) (E : XK), Room k (A.deeper (envOfC qual (defScope st) s.heap.objs.size f cdv)) →
      PSs (cxOf (L2.CX P w) P w K mg base N qual (defScope st) f cdv A outer s H E) (defBody st) (tS Z b (fun cls d _ H => E cls d H))) :
    FnOk P w K mg base (L2.CX P w) (k + 1) f fd ps (spOf Z n (runB b N.length)) := by
  refine F.okX Sc (fun vs H Q E h => by rw [h.1, hn]) fun cdv A outer s H vs Q E hr ⟨hl, m, g, ds, st, r, h⟩ => ⟨_, hbody cdv A outer s H E hr, m, g, _, st, RhoRep.start r, ?_⟩
  unfold runB at h
  have hlen : (start N vs).length = N.length := by
    have := Sc.pre
    have h2 : vs.length ≤ N.length := by
      rw [hl, ← hn, ← congrArg List.length Sc.pre, List.length_take]
      exact Nat.min_le_right _ _
    unfold L2.start
    simp
    omega
  rw [hlen]
  split at h
  · rename_i ρ' g' e
    rw [e]
    exact fun m' H' σ' e1 s1 _ _ => h m' H' .non e1 s1 D.mk_non
  · rename_i d g' e
    rw [e]
    exact fun m' H' v e1 s1 r1 => h m' H' v e1 s1 r1
  · rename_i x ρ' g' e
    rw [e]
    exact fun m' H' σ' cls d e1 s1 _ _ er => h m' H' e1 s1 cls d er
  · exact h.elim
end L3

/-! L3g: sets of ints, sorted. -/
namespace L3
open PySem PySem.Spec PyProof.Rows L2

/-- k put into a rising list -/
def insI (k : Int) : List Int → List Int
  | [] => [k]
  | j :: js => if k < j then k :: j :: js else if k = j then j :: js else j :: insI k js
def canon (is : List Int) : List Int := is.foldr insI []
theorem mem_insI (k x : Int) : ∀ js : List Int, x ∈ insI k js ↔ x = k ∨ x ∈ js
  | [] => by simp [insI]
  | j :: js => by
    unfold insI
    split
    · simp
    · split
      · rename_i h; subst h; simp
      · simp only [List.mem_cons, mem_insI k x js]
        constructor
        · rintro (h | h | h)
          · exact .inr (.inl h)
          · exact .inl h
          · exact .inr (.inr h)
        · rintro (h | h | h)
          · exact .inr (.inl h)
          · exact .inl h
          · exact .inr (.inr h)
theorem pw_insI (k : Int) : ∀ js : List Int, js.Pairwise (· < ·) → (insI k js).Pairwise (· < ·)
  | [], _ => by simp [insI]
  | j :: js, h => by
    obtain ⟨h1, h2⟩ := List.pairwise_cons.mp h
    unfold insI
    split
    · rename_i hk
      refine List.pairwise_cons.mpr ⟨fun x hx => ?_, h⟩
      rcases List.mem_cons.mp hx with rfl | hx
      · exact hk
      · exact Int.lt_trans hk (h1 x hx)
    · split
      · exact h
      · refine List.pairwise_cons.mpr ⟨fun x hx => ?_, pw_insI k js h2⟩
        rcases (mem_insI k x js).mp hx with rfl | hx
        · omega
        · exact h1 x hx
theorem mem_canon (x : Int) : ∀ is : List Int, x ∈ canon is ↔ x ∈ is
  | [] => by simp [canon]
  | i :: is => by
    show x ∈ insI i (canon is) ↔ _
    rw [mem_insI, mem_canon x is, List.mem_cons]
theorem pw_canon : ∀ is : List Int, (canon is).Pairwise (· < ·)
  | [] => by simp [canon]
  | i :: is => pw_insI i _ (pw_canon is)
/-- two rising lists with the same members are one -/
theorem rising_one : ∀ (as bs : List Int), as.Pairwise (· < ·) → bs.Pairwise (· < ·) → (∀ x, x ∈ as ↔ x ∈ bs) → as = bs
  | [], [], _, _, _ => rfl
  | [], b :: bs, _, _, h => by have := (h b).mpr List.mem_cons_self; cases this
  | a :: as, [], _, _, h => by have := (h a).mp List.mem_cons_self; cases this
  | a :: as, b :: bs, h1, h2, h => by
    obtain ⟨p1, p2⟩ := List.pairwise_cons.mp h1
    obtain ⟨q1, q2⟩ := List.pairwise_cons.mp h2
    have hab : a = b := by
      rcases List.mem_cons.mp ((h a).mp List.mem_cons_self) with e | e
      · exact e
      · rcases List.mem_cons.mp ((h b).mpr List.mem_cons_self) with e' | e'
        · exact e'.symm
        · have := q1 a e
          have := p1 b e'
          omega
    subst hab
    rw [rising_one as bs p2 q2 fun x => ?_]
    constructor
    · intro hx
      rcases List.mem_cons.mp ((h x).mp (List.mem_cons_of_mem _ hx)) with e | e
      · have := p1 x hx; omega
      · exact e
    · intro hx
      rcases List.mem_cons.mp ((h x).mpr (List.mem_cons_of_mem _ hx)) with e | e
      · have := q1 x hx; omega
      · exact e
theorem nodup_len : ∀ (as bs : List Int), as.Nodup → bs.Nodup → (∀ x, x ∈ as ↔ x ∈ bs) → as.length = bs.length := fun as bs h1 h2 h => by
  have : as.Perm bs := by
    rw [List.perm_ext_iff_of_nodup h1 h2]
    exact h
  exact this.length_eq
theorem nodup_of_lt {as : List Int} (h : as.Pairwise (· < ·)) : as.Nodup := h.imp fun h => by omega

def fSet : FN := fun xs g => match xs with
  | [.tup ds] => match intsOf ds with
    | some is => if is.length < 4000 then some (.ref g.length, g ++ [.iset (canon is)]) else none
    | none => none
  | _ => none
def fSorted : FN := fun xs g => match xs with
  | [.ref i] => match g[i]? with
    | some (.iset ks) => if ks.length < 64 then some (.ref g.length, g ++ [.lst (ks.map .int)]) else none
    | _ => none
  | _ => none
section
variable {X : Cx} {Z : Row}
theorem setR_count {w : World} {h : Heap} {a : Addr} {is : List Int} {c : Nat} (R : SetR w h a (fun j => decide (j ∈ is)) c) : c = (canon is).length := by
  obtain ⟨o, es, ep, t, _, _, _, _, hn, hs, _, _, hc, _⟩ := R
  rw [← hc]
  have e := nodup_len (es.toList.map keyOf) (canon is) hn (nodup_of_lt (pw_canon is)) fun x => by
    rw [mem_canon, ← hs x]
    simp
  rw [List.length_map, Array.length_toList] at e
  exact e
theorem iset_new {m : List Addr} {g : GH} {H : Hp} {ks : List Int} {p : Addr} {K : KW} {T : List (Addr × Str)} (s : S K T m g H) (hp : H p = none) (hk : ks.Pairwise (· < ·)) {u : HO} (hu : u = SetO K.w p (fun j => decide (j ∈ ks)) ks.length) :
    Ext m H (m ++ [p]) (upd H p u) ∧ S K T (m ++ [p]) (g ++ [.iset ks]) (upd H p u) ∧ DRep K (m ++ [p]) (upd H p u) (.ref g.length) (.ref p) := by
  obtain ⟨e, s2⟩ := s.new (u := u) (o := .iset ks) hp ⟨by rw [upd_same, hu], hk⟩
  refine ⟨e, s2, ?_⟩
  rw [DRep]
  exact ⟨p, rfl, by rw [← s.len]; simp⟩
theorem c_set (hK : Z.K = X.kw) (hc : X.calm = true) : CallR X (.type "set") (rN Z fSet) := by
  obtain ⟨K, T, ec⟩ := Z
  obtain rfl : K = X.kw := hK
  intro pins st σ H xs us Q I rx ⟨m, g, ds, s, hd, h⟩
  unfold fSet at h
  split at h
  · obtain ⟨v, rfl, h1⟩ := reps1 hd
    obtain ⟨p, ys, rfl, h1, h2⟩ := ix_tup_l h1
    split at h
    · rename_i is e1
      split at h
      · rename_i hlen
        rw [ints_reps h2 e1] at h1
        obtain ⟨its, rv, hl, _⟩ := I.tuple h1
        rw [Vals.ref1 rx]
        refine call_set_tupI is (I.ok.hd hc) (show st.heap.IsTuple p its.toArray from hl) (intsAre_of rv) (by have : scanBound = 4096 := rfl; omega) fun h' tk c R hcl k => ?_
        have hcc := setR_count R
        subst hcc
        have ok : ObjOk X.prog X.w (upd H st.heap.objs.size (SetO X.w st.heap.objs.size (fun j => decide (j ∈ is)) (canon is).length)) h' st.heap.objs.size (SetO X.w st.heap.objs.size (fun j => decide (j ∈ is)) (canon is).length) := setO_new R
        have hn := I.hok.fresh (Nat.le_refl st.heap.objs.size)
        have eS : (fun j => decide (j ∈ is)) = (fun j => decide (j ∈ canon is)) := by
          funext j
          exact decide_eq_decide.mpr (mem_canon j is).symm
        obtain ⟨e2, s2, r2⟩ := iset_new s hn (pw_canon is) (u := SetO X.w st.heap.objs.size (fun j => decide (j ∈ is)) (canon is).length) (by rw [eS])
        exact ⟨.ref st.heap.objs.size, _, I.laid (t' := tk) k (Nat.le_refl _) ok, rfl, h _ _ _ e2 s2 r2⟩
      · exact h.elim
    · exact h.elim
  · exact h.elim
theorem ints_map_reps {K : KW} {m : List Addr} {H : Hp} : ∀ ks : List Int, DReps K m H (ks.map D.int) (ks.map V.int)
  | [] => by show DReps K m H [] []; rw [DReps]
  | k :: ks => by
    show DReps K m H (D.int k :: ks.map D.int) (V.int k :: ks.map V.int)
    rw [DReps]
    exact ⟨_, _, rfl, D.mk_int, ints_map_reps ks⟩
theorem c_sorted (hK : Z.K = X.kw) (hc : X.calm = true) : CallR X (.builtin "sorted") (rN Z fSorted) := by
  obtain ⟨K, T, ec⟩ := Z
  obtain rfl : K = X.kw := hK
  intro pins st σ H xs us Q I rx ⟨m, g, ds, s, hd, h⟩
  unfold fSorted at h
  split at h
  · obtain ⟨v, rfl, h1⟩ := reps1 hd
    split at h
    · rename_i ks e1
      split at h
      · rename_i hlen
        rw [DRep] at h1
        obtain ⟨p, rfl, h1⟩ := h1
        obtain ⟨o, h2, h3⟩ := s.at h1
        rw [e1] at h2; cases h2
        refine cr_sortedSet hc pins st σ H _ us Q I rx ⟨p, _, _, rfl, h3.1, hlen, fun ns q hs hm hl hq => ?_⟩
        have : ns = ks := rising_one ns ks hs h3.2 fun x => by rw [hm x]; simp
        subst this
        obtain ⟨e2, s2, r2⟩ := lst_new s (ints_map_reps ns) hq
        exact h _ _ _ e2 s2 r2
      · exact h.elim
    · exact h.elim
  · exact h.elim
end
end L3

/-! L3h: the word of a call's error: a try with many clauses; a lambda that is handed to it. -/
namespace L3
open PySem PySem.Spec PyProof.Rows L2

/-- a clause: the class; what its suite asks, or nothing where it is never taken -/
abbrev Cl : Type := Value × Option (Addr → Value → Option Addr → TS)
def wCl (K : PySem.W.Frag) (Wo : WX) (D : Ends) : List Cl → WX
  | [] => Wo
  | (c, none) :: r => fun cls d σ H => PySem.W.exmOne K cls c = some false ∧ wCl K Wo D r cls d σ H
  | (c, some ts) :: r => fun cls d σ H => ∃ b, PySem.W.exmOne K cls c = some b ∧
      if b = true then ∀ a, H a = none → ts a cls d D σ H else wCl K Wo D r cls d σ H
inductive ClOk (X : Cx) : List ExceptHandler → List Cl → Prop
  | nil : ClOk X [] []
  | skip {x : Str} {c : Value} {nm : Option Str} {b : Stmt} {bs : List Stmt} {p1 p2 : Pos} {hs : List ExceptHandler} {l : List Cl} (hc : Names X x c) (r : ClOk X hs l) :
      ClOk X (.ExceptHandler (some (.Name x p1)) nm (b :: bs) p2 :: hs) ((c, none) :: l)
  | take {x : Str} {c : Value} {ts : Addr → Value → Option Addr → TS} {b : Stmt} {bs : List Stmt} {p1 p2 : Pos} {hs : List ExceptHandler} {l : List Cl} (hc : Names X x c)
      (su : ∀ (a : Addr) (o : Obj) (cls : Value) (d : Option Addr) (pn : List (Addr × Obj)), PSs (X.suite a ((a, o) :: pn)) (b :: bs) (ts a cls d)) (r : ClOk X hs l) :
      ClOk X (.ExceptHandler (some (.Name x p1)) none (b :: bs) p2 :: hs) ((c, some ts) :: l)
section
variable {X : Cx} {W : WX}
/-- the caught exception, noted, at a; the frame as it was -/
structure Caught (X : Cx) (pins : List (Addr × Obj)) (σ : L2.St) (H : Hp) (B : Heap) (a : Addr) (cls : Value) (d : Option Addr) (sI s3 : Shared) : Prop where
  inv : Inv X pins σ H sI
  fly : HandSPX.FlyingZ B (X.env :: X.outer) a (Zc cls d) s3.heap
  nb : ∀ b o, sI.heap.get? b = some o → b ∉ frs X.stack → B.get? b = some o
  up : sI.heap.UpToSlots s3.heap
  na : H a = none
  nL : a ≠ X.env.locals
  nF : a ∉ X.fs
  os : s3.os = sI.os
  bare : AllBare s3.gens
theorem Caught.at_ {pins : List (Addr × Obj)} {σ : L2.St} {H : Hp} {B : Heap} {a : Addr} {cls : Value} {d : Option Addr} {sI s3 : Shared} (c : Caught X pins σ H B a cls d sI s3) :
    Inv X pins σ H s3 ∧ ∃ o, s3.heap.get? a = some o ∧ Zc cls d o ∧ ∃ vs, o.data = .fields vs := by
  obtain ⟨o, vs, h1, h2, h3⟩ := c.fly.there
  exact ⟨c.inv.landed c.nb c.fly.1 c.up c.os c.bare, o, h1, h2, vs, h3⟩
theorem Caught.suite {pins : List (Addr × Obj)} {σ : L2.St} {H : Hp} {B : Heap} {a : Addr} {cls : Value} {d : Option Addr} {sI s3 : Shared} (c : Caught X pins σ H B a cls d sI s3) :
    ∃ o, s3.heap.get? a = some o ∧ Zc cls d o ∧ Inv (X.suite a ((a, o) :: (X.pn ++ pins))) [] σ H s3 := by
  obtain ⟨I, o, h1, h2, vs, h3⟩ := c.at_
  exact ⟨o, h1, h2, I.suite h1 h3 c.na c.nL c.nF⟩
/-- the class's name is looked up, and the exception held against it -/
theorem Caught.test {pins : List (Addr × Obj)} {σ : L2.St} {H : Hp} {B : Heap} {a : Addr} {cls : Value} {d : Option Addr} {sI s3 : Shared} (c : Caught X pins σ H B a cls d sI s3) {x : Str} {cv : Value} {p q : Pos} {b : Bool}
    {R : Result → Shared → Prop} (hc : Names X x cv) (hm : PySem.W.exmOne X.K cls cv = some b) (h : R (.ok (if b then .brk else .next)) s3) :
    codeAny (model X.prog X.w) (X.A.mark (some (.ref a))) (.handlers (.ref a) [.ExceptHandler (some (.Name x p)) none [] q] X.env) R s3 := by
  obtain ⟨o, h1, h2, J⟩ := c.suite
  have I := c.at_.1
  have look : PySem.W.Looks (model X.prog X.w) s3.heap (typeOf (.ref a)) cls := fun A Q E s k q => wpAny_typeOf_ref (k _ _ h1) (by rw [h2.1]; exact q)
  have hit := PySem.W.exm_one (M := model X.prog X.w) I.kIn look hm
  refine codeAny_handlers_test ?_
  obtain ⟨hg, hd, hv | ⟨hv, hb, hn⟩⟩ := hc
  · exact ld_glob (X := X.suite a ((a, o) :: (X.pn ++ pins))) J hg hv (hit.here h) hd
  · exact ld_blt (X := X.suite a ((a, o) :: (X.pn ++ pins))) J hg hv hb (hit.here h) hn hd
theorem Caught.run (hst : X.stack = X.env :: X.outer) (tk : Takes X W) {pins : List (Addr × Obj)} {σ : L2.St} {H : Hp} {B : Heap} {a : Addr} {cls : Value} {d : Option Addr} {sI s3 : Shared} {D : Ends} (ok : X.Ok) (hf : X.env.frame = some X.env.locals)
    (c : Caught X pins σ H B a cls d sI s3) {hs : List ExceptHandler} {l : List Cl} (k : ClOk X hs l) (w : wCl X.K W D l cls d σ H) :
    wpAny (model X.prog X.w) X.A (handleBy (.ref a) X.env hs) (SP X pins D) X.xe s3 := by
  induction k with
  | nil =>
    refine wpAny_handleBy_nil ?_
    obtain ⟨k1, k2, k3, oe, vs, T, oT, ts', he, hz, hd, h1, hr⟩ := id c.fly
    have out : wpAny (model X.prog X.w) X.A (setFlight (.ref a) X.env.frame) (fun _ s4 => wpAny (model X.prog X.w) X.A (throw (.ref a) : Sem Flow) (SP X pins D) X.xe s4) X.xe s3 := by
      rw [hf]
      refine HandSPX.setFlight_upZ c.fly fun h4 hh4 up4 => wpAny_throw ?_
      exact tk _ _ ⟨a, B, sI, pins, σ, H, cls, d, rfl, c.inv, c.nb, c.up.trans up4, .inr (.inr (hst ▸ hh4)), c.na, c.os, c.bare, w⟩
    unfold PySem.passOn
    refine wpAny_bind (wpAny_field he hd h1 ?_)
    rw [if_neg (fun z : (Value.ref T == Value.none) = true => by simp at z)]
    first | exact wpAny_bind out | exact wpAny_bind (wpAny_pure (wpAny_bind out))
  | skip hc r ih =>
    obtain ⟨hm, w2⟩ := w
    exact wpAny_handleBy_cons (c.test hc hm (ih w2)) (fun q => nomatch q)
  | take hc su r ih =>
    obtain ⟨b, hm, w2⟩ := w
    refine wpAny_handleBy_cons (c.test hc hm ?_) (fun q => nomatch q)
    cases b with
    | false => exact ih w2
    | true =>
      refine codeAny_handlers_suite (HandSPX.lands_againZ c.fly fun h4 f4 u4 => ?_)
      have c4 : Caught X pins σ H B a cls d sI { s3 with heap := h4 } := ⟨c.inv, f4, c.nb, c.up.trans u4, c.na, c.nL, c.nF, c.os, c.bare⟩
      obtain ⟨o, h1, h2, J⟩ := c4.suite
      refine wpAny_mono ((su a o cls d (X.pn ++ pins)).run [] _ σ H D J (w2 a c.na)) (fun f s6 q => ?_) (fun _ _ z => z.elim)
      cases f with
      | next => obtain ⟨σ6, H6, J6, q6⟩ := q; exact ⟨σ6, H6, J6.unsuite ok, q6⟩
      | brk => obtain ⟨σ6, H6, J6, q6⟩ := q; exact ⟨σ6, H6, J6.unsuite ok, q6⟩
      | cont => obtain ⟨σ6, H6, J6, q6⟩ := q; exact ⟨σ6, H6, J6.unsuite ok, q6⟩
      | ret u => obtain ⟨v, σ6, H6, J6, r6, q6⟩ := q; exact ⟨v, σ6, H6, J6.unsuite ok, r6, q6⟩
theorem ps_tryCl {body : List Stmt} {h₀ : ExceptHandler} {hds : List ExceptHandler} {l : List Cl} {pos : Pos} {tb : WX → TS} (hst : X.stack = X.env :: X.outer) (hf : X.env.frame = some X.env.locals) (tk : Takes X W)
    (hb : ∀ (W' : WX) (pn : List (Addr × Obj)) (xe : Value → Shared → Prop), Takes (X.tr pn xe) W' → PassesOwn (model X.prog X.w) X.A X.env xe → PSs (X.tr pn xe) body (tb W')) (hk : ClOk X (h₀ :: hds) l) :
    PS X (.Try body (h₀ :: hds) [] [] pos) (fun D σ H => tb (wCl X.K W D l) D σ H) := ⟨fun pins s σ H D I h => by
  have hfr : X.A.frames = some (X.env :: X.outer) := hst ▸ I.ok.frames
  refine wpAny_Try_except (wpAny_mono ((hb (wCl X.K W D l) (X.pn ++ pins) _ (fun u s' z => ?_) PassesOwn.looking).run [] s σ H D (I.toTry _) h) (fun f s1 q => ?_) fun e s1 z => z)
  · obtain ⟨a, B, sI, pins', σ', H', cls, d, rfl, J', nb, up, sky, na, os, ag, w⟩ := z
    have J : Inv X pins σ' H' sI := J'.ofTry I.ok
    refine Sky.land Zc.steady hfr hf (hst ▸ sky) fun h3 f3 u3 => ?_
    obtain ⟨oe, vs, he, hz, hd⟩ := f3.there
    have nfr : a ∉ frs (X.env :: X.outer) := fun hm => by
      obtain ⟨_, o', e', hnf⟩ := f3.2.2.1.mem hm
      rw [he] at e'; cases e'
      exact hnf _ hd
    have c : Caught X pins σ' H' B a cls d sI { s' with heap := h3 } := ⟨J, f3, nb, up.trans u3, na, fun z => nfr (List.mem_filterMap.mpr ⟨X.env, List.mem_cons_self, by rw [hf, z]⟩), fun hm => by
      obtain ⟨e, he, q⟩ := List.mem_filterMap.mp hm
      exact nfr (List.mem_filterMap.mpr ⟨e, List.mem_cons_of_mem _ he, q⟩), os, ag⟩
    exact c.run hst tk I.ok hf hk w
  · cases f with
    | next => obtain ⟨σ6, H6, J6, q6⟩ := q; exact wpAny_execs_nil ⟨σ6, H6, J6.ofTry I.ok, q6⟩
    | brk => obtain ⟨σ6, H6, J6, q6⟩ := q; exact ⟨σ6, H6, J6.ofTry I.ok, q6⟩
    | cont => obtain ⟨σ6, H6, J6, q6⟩ := q; exact ⟨σ6, H6, J6.ofTry I.ok, q6⟩
    | ret u => obtain ⟨v, σ6, H6, J6, r6, q6⟩ := q; exact ⟨v, σ6, H6, J6.ofTry I.ok, r6, q6⟩⟩
end
end L3

/-! L3i: what a lambda that is handed to the words gives. -/
namespace L3
open PySem PySem.Spec PyProof.Rows L2

def wordS : List Str := ["rule", "squad", "number", "plan", "standing", "place", "row", "reply", "text", "unlike", "over", "undo"]
def wordR (r : Res D) : Res D := match r with
  | .ok _ g => .ok (.str "") g
  | .er (.own c) g => match wordS[c]? with
    | some s => .ok (.str s) g
    | none => .bad
  | _ => .bad
def eWord (e : EV) : EV := fun ρ g => wordR (e ρ g)
abbrev TTw (ec : Nat → Addr) : (XK → Hp → VK → Prop) → Hp → VK → Prop := fun tl H Q =>
  tl (fun cls _ H' => ∃ c s, wordS[c]? = some s ∧ cls = .ref (ec c) ∧ Q (.str s) H') H fun _ H' => Q (.str "") H'
/-- the suites: found is a word -/
abbrev tsW (s : Str) : Addr → Value → Option Addr → TS := fun _ _ _ => tAsg (tC (.str s)) (gName 1)
def clsOf (ec : Nat → Addr) (i : Nat) : List Str → List Cl
  | [] => []
  | s :: r => (.ref (ec i), some (tsW s)) :: clsOf ec (i + 1) r
theorem wCl_hit {K : PySem.W.Frag} {ec : Nat → Addr} {Wo : WX} {D : Ends} {c : Nat} {s : Str} {d : Option Addr} {σ : L2.St} {H : Hp} {rest : List Cl} (hx : ∀ j, j ≤ c → PySem.W.exmOne K (.ref (ec c)) (.ref (ec j)) = some (decide (c = j))) (q : ∀ a, tsW s a (.ref (ec c)) d D σ H) :
    ∀ (l : List Str) (i : Nat), i ≤ c → l[c - i]? = some s → wCl K Wo D (clsOf ec i l ++ rest) (.ref (ec c)) d σ H
  | [], i, _, h => by simp at h
  | w :: l, i, hi, h => by
    show ∃ b, PySem.W.exmOne K (.ref (ec c)) (.ref (ec i)) = some b ∧ if b = true then ∀ a, H a = none → tsW w a (.ref (ec c)) d D σ H else wCl K Wo D (clsOf ec (i + 1) l ++ rest) (.ref (ec c)) d σ H
    refine ⟨_, hx i hi, ?_⟩
    by_cases e : c = i
    · subst e
      simp at h
      subst h
      simp
      exact fun a _ => q a
    · rw [decide_eq_false e, if_neg Bool.false_ne_true]
      refine wCl_hit hx q l (i + 1) (by omega) ?_
      have : c - i = (c - (i + 1)) + 1 := by omega
      rw [this] at h
      simpa using h
theorem takes_len {X : Cx} {W : WX} (t : Takes X W) : Takes X (fun cls d σ H => σ.length = X.N.length → W cls d σ H) := fun u s' ⟨a, B, sI, pins, σ, H, cls, d, e, I, nb, up, sky, na, os, ag, w⟩ => t u s' ⟨a, B, sI, pins, σ, H, cls, d, e, I, nb, up, sky, na, os, ag, w I.len⟩
section
variable {X : Cx}
/-- the def of the words: found = ""; try: call() except ..; return found. l: its clauses -/
theorem gives_word {sg : Scope} {g : Addr} {cdg : Value} {q : Str} {ec : Nat → Addr} {l : List Cl} {h₀ : ExceptHandler} {hds : List ExceptHandler} {j : Nat} {p0 p1 p2 p3 p4 p5 p6 p7 p8 : Pos} (nd : (["call", "found", "e"] : List Str).Nodup)
    (hl1 : sg.names.lookup ("call" : Str) = some NameKind.local) (hl2 : sg.names.lookup ("found" : Str) = some NameKind.local) (hx : ∀ c j, c < 12 → j ≤ c → PySem.W.exmOne X.K (.ref (ec c)) (.ref (ec j)) = some (decide (c = j)))
    (hk : ∀ (s : Shared) (H : Hp), ClOk (cxOf C8.CX0 X.prog X.w X.K X.mg X.base ["call", "found", "e"] "_law_word" sg g cdg X.A X.stack s H C8.E0).nox (h₀ :: hds) (clsOf ec 0 wordS ++ l)) :
    LamX.GivesTo X ["call", "found", "e"] "_law_word" sg g cdg [.Assign [.Name "found" p0] (.Constant (.str "") j p1) p2, .Try [.Expr (.Call (.Name "call" p3) [] [] p4) p5] (h₀ :: hds) [] [] p6, .Return (some (.Name "found" p7)) p8] "call" q (TTw ec) := by
  intro f c' s H Q tl act hc h
  refine ⟨_, pss_cons (ps_set (i := 1) nd rfl (.inl hl2) pe_str rfl (.inr hl2)) (pss_cons (ps_tryCl (W := fun _ _ _ _ => False) (l := clsOf ec 0 wordS ++ l)
    (tb := fun W D σ H => ∃ Ech : XK, (∀ cls d σ' H', Ech cls d H' → σ'.length = 3 → W cls d σ' H') ∧ σ[0]? = some (some (.ref f)) ∧ H c' = some (LamX.CodeO c' q) ∧ tl Ech H fun _ H' => D.nx σ H')
    rfl rfl (fun u s' z => ?_) (fun W pn xe tk _ => ⟨fun pins s1 σ1 H1 D I h1 => ?_⟩) (hk s H)) (pss_one (ps_ret (pe_var (i := 1) rfl (.inl hl2))))), ?_⟩
  · obtain ⟨_, _, _, _, _, _, _, _, _, _, _, _, _, _, _, _, z⟩ := z
    exact z.elim
  · obtain ⟨Ech, hW, h2, h3, h4⟩ := h1
    have hp := act _ pn xe Ech p3 p4 (takes_len tk) fun cls d σ' H' e hl => hW cls d σ' H' e hl
    exact (pss_one (ps_expr (pos := p5) hp)).run pins s1 σ1 H1 D I ⟨h2, h3, h4⟩
  · refine ⟨fun cls _ H' => ∃ c s, wordS[c]? = some s ∧ cls = .ref (ec c) ∧ Q (.str s) H', fun cls d σ' H' hE hl => ?_, rfl, hc, ?_⟩
    · obtain ⟨c, s1, e1, rfl, hQ⟩ := hE
      have hc12 : c < 12 := (List.getElem?_eq_some_iff.mp e1).1
      refine wCl_hit (fun j hj => hx c j hc12 hj) (fun a => ?_) wordS 0 (Nat.zero_le _) (by simpa using e1)
      show ∃ v, (σ'.set 1 (some (V.str s1)))[1]? = some (some v) ∧ Q v H'
      exact ⟨_, List.getElem?_set_self (by omega), hQ⟩
    · have e : (fun (_ : V) (H' : Hp) => ∃ v, (List.set (L2.start ["call", "found", "e"] [V.ref f]) 1 (some (V.str "")))[1]? = some (some v) ∧ Q v H') = fun _ H' => Q (.str "") H' := by
        funext _ H'
        exact propext ⟨fun ⟨v, e, q⟩ => by cases e; exact q, fun q => ⟨_, rfl, q⟩⟩
      show tl _ H fun (_ : V) (H' : Hp) => ∃ v, (List.set (L2.start ["call", "found", "e"] [V.ref f]) 1 (some (V.str "")))[1]? = some (some v) ∧ Q v H'
      rw [e]
      exact h
theorem S.extN {K : KW} {T : List (Addr × Str)} {m : List Addr} {g : GH} {H H1 : Hp} (s : S K T m g H) (e : LamX.ExtN H H1) (t : LamX.Tabs T H1) : Ext m H m H1 ∧ S K T m g H1 := by
  have x : Ext m H m H1 := ⟨⟨[], by simp, fun _ h => by cases h⟩, fun b xs h => e b _ h (fun ps z => by cases z), fun b o u h => e b _ h (fun ps z => by cases z), fun b o h _ nt => e b o h nt, fun b h o q => by
    by_cases nt : ∃ ps, o = HO.tbl ps
    · exact nt
    · exact h o (e b o q fun ps z => nt ⟨ps, z⟩)⟩
  refine ⟨x, s.nod, s.len, fun i a o h1 h2 => ?_, t⟩
  refine (s.obj i a o h1 h2).mono x fun u h => e a u h ?_
  have r := s.obj i a o h1 h2
  cases o with
  | lst ds =>
    obtain ⟨xs, h3, _⟩ := r
    rw [h3] at h; cases h
    exact fun ps z => by cases z
  | iset ks =>
    rw [r.1] at h; cases h
    exact fun ps z => by unfold SetO at z; cases z
  | dct kvs =>
    obtain ⟨xs, h3, _⟩ := r
    rw [h3] at h; cases h
    exact fun ps z => by unfold DicO at z; cases z
theorem word_lam {Z : Row} {W : WX} {e : EV} {σ : L2.St} {H : Hp} {Q : VK} (h : tE Z (eWord e) W σ H Q) : LamX.tLam Z.T (TTw Z.ec) (fun E => tE Z e fun cls d _ H => E cls d H) σ H Q := by
  obtain ⟨m, g, ρ, s, r, h⟩ := h
  refine ⟨s.tab, fun H1 eN t1 => ?_⟩
  obtain ⟨x, s1⟩ := s.extN eN t1
  refine ⟨m, g, ρ, s1, r.mono x, ?_⟩
  unfold eWord wordR at h
  cases e1 : e ρ g with
  | bad => rw [e1] at h; exact h
  | ok d g1 =>
    rw [e1] at h
    exact fun m' H' v e2 s2 _ => h m' H' _ (x.trans e2) s2 D.mk_str
  | er y g1 =>
    rw [e1] at h
    cases y with
    | lim c d => exact h.elim
    | own c =>
      simp only at h
      cases e3 : wordS[c]? with
      | none => rw [e3] at h; exact h.elim
      | some w =>
        rw [e3] at h
        exact fun m' H' e2 s2 cls d er => ⟨c, w, e3, er.1, h m' H' _ (x.trans e2) s2 D.mk_str⟩
/-- x(lambda: body) -/
theorem pe3_word {Z : Row} {W : WX} {e : EV} {x : Str} {g c P : Addr} {k : Nat} {pg : Arguments} {bg : List Stmt} {sg : Scope} {fd : FuncData}
    {params : Arguments} {body : Expr} {scope : Scope} {p lpos pos : Pos} (hg : Gl X x) (hm : X.mg x = some (.ref g)) (F : FunD X.K x x pg bg sg [] [] g fd) (hb : L2.Binds X.K fd ["call"] []) (Sg : FnScope ["call", "found", "e"] ["call"] sg)
    (hva : Vis sg "call") (hG : ∀ cdv : Value, LamX.GivesTo X ["call", "found", "e"] x sg g cdv bg "call" (X.env.qual ++ "<lambda>") (TTw Z.ec))
    (TB : LamX.TabB X.base X.mg c P) (hcode : X.env.code = .ref c) (hmT : (P, X.env.qual ++ "<lambda>") ∈ Z.T) (hu : ∀ p ∈ Z.T, p.1 = P → p.2 = X.env.qual ++ "<lambda>") (hr : Room (k + 2) X.A) (L : LamX.LamS X.env.scope scope)
    (hbody : ∀ (A : Around) (outer : List Env) (s : Shared) (H : Hp) (E : XK) (f c' : Addr), Room k (A.deeper (LamX.lamEnv X scope s.heap.objs.size f c')) → PE (LamX.lamCx X A outer s H E scope f c') body (tE Z e fun cls d _ H => E cls d H))
    (hdef : defaultsOf params X.env = ([], []) := by rfl)
    (hbind : ∀ (q : Str) (cl : List (Str × Addr)) (pm cv ctv : Value), bindArgs (PySem.W.kla_fn "<lambda>" q params body scope cl pm cv ctv) ⟨[], []⟩ = pure [] := by intros; rfl)
    (hdb : (x == ("__debug__" : Str)) = false := by decide) : PE X (.Call (.Name x p) [.Lambda params body scope lpos] [] pos) (tE Z (eWord e) W) := by
  obtain ⟨oc, od, dV, kV, doc, pm, an, cdv, ct, osl, e1, lk, hcd, _, _⟩ := F.ex
  rw [e1] at lk hb
  exact (LamX.pe_lamcall (T := Z.T) hg hm F.kp lk hcd hb Sg rfl hva (hG cdv) TB hcode hmT hu hr L hdef hbind hbody hdb).imp fun σ H Q h => word_lam h
end
end L3

/-! L3j: short words for the derivations; defs by the head's facts; the law's end. -/
namespace L3
open PySem PySem.Spec PyProof.Rows L2

theorem bt_len : bootBuiltins "len" = some (.builtin "len") := by decide +kernel
theorem bt_abs : bootBuiltins "abs" = some (.builtin "abs") := by decide +kernel
theorem bt_min : bootBuiltins "min" = some (.builtin "min") := by decide +kernel
theorem bt_max : bootBuiltins "max" = some (.builtin "max") := by decide +kernel
theorem bt_sum : bootBuiltins "sum" = some (.builtin "sum") := by decide +kernel
theorem bt_sorted : bootBuiltins "sorted" = some (.builtin "sorted") := by decide +kernel
theorem bt_isinstance : bootBuiltins "isinstance" = some (.builtin "isinstance") := by decide +kernel
theorem bt_int : bootBuiltins "int" = some (.type "int") := by decide +kernel
theorem bt_bool : bootBuiltins "bool" = some (.type "bool") := by decide +kernel
theorem bt_str : bootBuiltins "str" = some (.type "str") := by decide +kernel
theorem bt_list : bootBuiltins "list" = some (.type "list") := by decide +kernel
theorem bt_tuple : bootBuiltins "tuple" = some (.type "tuple") := by decide +kernel
theorem bt_set : bootBuiltins "set" = some (.type "set") := by decide +kernel
theorem bt_dict : bootBuiltins "dict" = some (.type "dict") := by decide +kernel

def LenA (as : AV) (n : Nat) : Prop := ∀ ρ g ds g', as ρ g = .ok ds g' → ds.length = n
theorem lenA_nil : LenA aNil 0 := fun ρ g ds g' h => by cases h; rfl
theorem lenA_cons {a : EV} {as : AV} {n : Nat} (h : LenA as n) : LenA (aCons a as) (n + 1) := fun ρ g ds g' e => by
  unfold aCons at e
  cases e1 : a ρ g with
  | bad => rw [e1] at e; cases e
  | er x g1 => rw [e1] at e; cases e
  | ok d g1 =>
    rw [e1] at e
    simp only [Res.bind_ok] at e
    cases e2 : as ρ g1 with
    | bad => rw [e2] at e; cases e
    | er x g2 => rw [e2] at e; cases e
    | ok es g2 =>
      rw [e2] at e
      simp only [Res.bind_ok] at e
      cases e
      simp [h _ _ _ _ e2]
theorem slots_ok {t : T3} {n : Nat} (h : t.slots.all (fun i => decide (i < n)) = true) : ∀ i ∈ t.slots, i < n := fun i hi => by
  have := List.all_eq_true.mp h i hi
  simpa using this
section
variable {X : Cx} {Z : Row} {W : WX} {pos : Pos} {a b c : Expr} {ea eb ecc : EV}
theorem pe3_globI {x : Str} {i : Int} (hg : Gl X x) (hm : ∃ t, X.mg x = some (.int i t)) (hd : (x == ("__debug__" : Str)) = false := by decide) : PE X (.Name x pos) (tE Z (eC (.int i)) W) := by
  obtain ⟨t, hm⟩ := hm
  exact pe3_glob (v := .int i) hg hm ⟨t, rfl⟩ (fun _ _ => D.mk_int) hd
theorem pe3_globS {x i : Str} (hg : Gl X x) (hm : ∃ t, X.mg x = some (.str i t)) (hd : (x == ("__debug__" : Str)) = false := by decide) : PE X (.Name x pos) (tE Z (eC (.str i)) W) := by
  obtain ⟨t, hm⟩ := hm
  exact pe3_glob (v := .str i) hg hm ⟨t, rfl⟩ (fun _ _ => D.mk_str) hd
theorem ps3_par3 {i j l : Nat} {x y z : Str} {px py pz pt : Pos} {kt k2 pt2} (hc : X.calm = true) (hN : X.N.Nodup) (hi : X.N[i]? = some x) (hj : X.N[j]? = some y) (hl : X.N[l]? = some z) (hij : i ≠ j) (hil : i ≠ l) (hjl : j ≠ l)
    (hx : X.env.scope.names.lookup x = some .local) (hy : X.env.scope.names.lookup y = some .local) (hz : X.env.scope.names.lookup z = some .local) (ha : PE X a (tE Z ea W)) (hb : PE X b (tE Z eb W)) (hcc : PE X c (tE Z ecc W))
    (hw : swappedStores [.Tuple [.Name x px, .Name y py, .Name z pz] kt pt] (.Tuple [a, b, c] k2 pt2) X.env = pure (some [x, y, z]) := by rfl) (hse : starEach [a, b, c] X.env = (false, eval a X.env) :: starEach [b, c] X.env := by rfl)
    (hse2 : starEach [b, c] X.env = (false, eval b X.env) :: starEach [c] X.env := by rfl) (hse3 : starEach [c] X.env = (false, eval c X.env) :: starEach [] X.env := by rfl) :
    PS X (.Assign [.Tuple [.Name x px, .Name y py, .Name z pz] kt pt] (.Tuple [a, b, c] k2 pt2) pos) (tS Z (sPar3 i j l ea eb ecc) W) :=
  (ps_par3 hc hN hi hj hl hij hil hjl hx hy hz (pa_cons ha (pa_cons hb (pa_cons hcc pa_nil hse3) hse2) hse) hw).imp fun D σ H hlen ⟨m, g, ρ, s, r, h⟩ => ⟨m, g, ρ, s, r, PostS.bind h r fun m1 H1 d v g1 e1 s1 r1 h1 =>
    ⟨m1, g1, ρ, s1, r.mono e1, PostS.bind h1 (r.mono e1) fun m2 H2 e u g2 e2 s2 r2 h2 => ⟨m2, g2, ρ, s2, (r.mono e1).mono e2, PostS.bind h2 ((r.mono e1).mono e2) fun m3 H3 f w g3 e3 s3 r3 h3 =>
      ⟨v, u, w, rfl, h3 m3 H3 _ .refl s3 (by simp) ((((((r.mono e1).mono e2).mono e3).set (by rw [hlen]; exact (List.getElem?_eq_some_iff.mp hi).1) ((r1.mono e2).mono e3)).set (by rw [List.length_set, hlen]; exact (List.getElem?_eq_some_iff.mp hj).1) (r2.mono e3)).set
        (by rw [List.length_set, List.length_set, hlen]; exact (List.getElem?_eq_some_iff.mp hl).1) r3)⟩⟩⟩⟩
end

theorem u64 {k : Nat} {A : Around} (h : Room k A) : A.units + 64 < cLine := by have := h.un; omega
theorem u65 {k : Nat} {A : Around} (h : Room k A) : A.units + 65 < cLine := by have := h.un; omega
/-! ### defs by the head's facts -/
theorem fn3D {P : Program} {w : World} {K : PySem.W.Frag} {mg : Str → Option Value} {base : Heap} {Z : Row} {x : Str} {st : Stmt} {f : Addr} {fd : FuncData} {N ps : List Str} {k n : Nat} {b : SV}
    (F : FunD K x x (defArgs st) (defBody st) (defScope st) [] [] f fd) (Sc : FnScope N ps (defScope st)) (hn : ps.length = n) (hf : f = He.fAd K (x, none))
    (hbody : ∀ (cdv : Value) (A : Around) (outer : List Env) (s : Shared) (H : Hp) (E : XK), cdv = .ref (He.codeOf K (x, none)) → Room k (A.deeper (envOfC x (defScope st) s.heap.objs.size f cdv)) →
      PSs (cxOf (L2.CX P w) P w K mg base N x (defScope st) f cdv A outer s H E) (defBody st) (tS Z b (fun cls d _ H => E cls d H))) :
    FnOk P w K mg base (L2.CX P w) (k + 1) f fd ps (spOf Z n (runB b N.length)) := by
  obtain ⟨oc, od, dV, kV, doc, pm, an, cdv, ct, osl, e, lk, hcd, _, _⟩ := F.ex
  obtain ⟨c, hc⟩ := He.codeIn_ref hcd
  have hcode : cdv = .ref (He.codeOf K (x, none)) := by
    rw [He.codeOf_eq (c := c) (hf ▸ lk) (by rw [e]; exact hc)]
    exact hc
  have lk' := lk
  rw [e] at lk' ⊢
  refine fn_of lk' hcd Sc (fun vs H Q E h => by rw [h.1, hn]) fun A outer s H vs Q E hr ⟨hl, m, g, ds, st', r, h⟩ => ⟨_, hbody cdv A outer s H E hcode hr, m, g, _, st', RhoRep.start r, ?_⟩
  unfold runB at h
  have hlen : (start N vs).length = N.length := by
    have h2 : vs.length ≤ N.length := by
      rw [hl, ← hn, ← congrArg List.length Sc.pre, List.length_take]
      exact Nat.min_le_right _ _
    unfold L2.start
    simp
    omega
  rw [hlen]
  split at h
  · rename_i ρ' g' e
    rw [e]
    exact fun m' H' σ' e1 s1 _ _ => h m' H' .non e1 s1 D.mk_non
  · rename_i d g' e
    rw [e]
    exact fun m' H' v e1 s1 r1 => h m' H' v e1 s1 r1
  · rename_i x ρ' g' e
    rw [e]
    exact fun m' H' σ' cls d e1 s1 _ _ er => h m' H' e1 s1 cls d er
  · exact h.elim
theorem FnOk.zero {P : Program} {w : World} {K : PySem.W.Frag} {mg : Str → Option Value} {base : Heap} {Z : Row} {f : Addr} {fd : FuncData} {ps : List Str} {k n : Nat} {F : List D → GH → Res D} (h : ∀ ds g, F ds g = .bad) :
    FnOk P w K mg base (L2.CX P w) k f fd ps (spOf Z n F) :=
  ⟨fun vs H Q E ⟨_, m, g, ds, _, _, q⟩ => by rw [h] at q; exact q.elim, fun A outer s H args us vs Q E _ _ _ _ ⟨_, m, g, ds, _, _, q⟩ => by rw [h] at q; exact q.elim⟩
/-- from the script to the language's value of it -/
theorem law_sp {Z : Row} {F : List D → GH → Res D} {H : Hp} {a : Addr} {ns : List Int} (t : LamX.Tabs Z.T H) (hS : SqL Z.K.K H a (ns.map V.int)) (h : ∀ d g, lstOf g d = some (ns.map D.int) → (d = .rol (ns.map D.int) ∨ d = .ref 0) → ∃ g', F [d] g = .ok (.bl true) g') :
    spOf Z 1 F [.ref a] H (fun v _ => v = .bl true) fun _ _ _ => False := by
  refine ⟨rfl, ?_⟩
  have fin : ∀ m g d, S Z.K Z.T m g H → DRep Z.K m H d (.ref a) → lstOf g d = some (ns.map D.int) → (d = .rol (ns.map D.int) ∨ d = .ref 0) → ∃ m g ds, S Z.K Z.T m g H ∧ DReps Z.K m H ds [.ref a] ∧ Post Z.K Z.T (RD Z) (F ds g) m H (fun v _ => v = .bl true) fun e m' H' => ∀ cls d, ERep Z.ec Z.K m' H' e cls d → False := fun m g d s r e o => by
    refine ⟨m, g, [d], s, by rw [DReps]; exact ⟨_, [], rfl, r, by rw [DReps]⟩, ?_⟩
    obtain ⟨g', e'⟩ := h d g e o
    rw [e']
    exact fun m' H' v _ _ r => D.bl_inv r
  have e0 : S Z.K Z.T [] [] H := ⟨List.nodup_nil, rfl, fun i a o h => by simp at h, t⟩
  rcases hS with (hS | ⟨o, hS⟩) | hS
  · refine fin [a] [.lst (ns.map D.int)] (.ref 0) ⟨by simp, rfl, fun i b o h1 h2 => ?_, t⟩ ?_ rfl (.inr rfl)
    · cases i with
      | zero =>
        simp at h1 h2
        subst h1; subst h2
        exact ⟨_, hS, ints_map_reps ns⟩
      | succ i => simp at h1
    · rw [DRep]; exact ⟨a, rfl, rfl⟩
  · exact fin [] [] (.rol (ns.map D.int)) e0 (by rw [DRep]; exact ⟨a, _, rfl, .inl ⟨o, hS⟩, ints_map_reps ns⟩) rfl (.inl rfl)
  · exact fin [] [] (.rol (ns.map D.int)) e0 (by rw [DRep]; exact ⟨a, _, rfl, .inr hS, ints_map_reps ns⟩) rfl (.inl rfl)
end L3

/-! L3k: what an evaluation comes to, by its parts. -/
namespace L3
open PySem L2

def wp {α : Type} (r : Res α) (Q : α → GH → Prop) (W : Exc → GH → Prop) : Prop := match r with
  | .ok a g => Q a g
  | .er e g => W e g
  | .bad => False
def wpo {α : Type} (o : Option (α × GH)) (Q : α → GH → Prop) : Prop := match o with
  | some (a, g) => Q a g
  | none => False
structure Kt where
  nx : Rho → GH → Prop
  rt : D → GH → Prop
  bk : Rho → GH → Prop
  ct : Rho → GH → Prop
  er : Exc → GH → Prop
def wps (o : Out) (k : Kt) : Prop := match o with
  | .nx ρ g => k.nx ρ g
  | .rt d g => k.rt d g
  | .bk ρ g => k.bk ρ g
  | .ct ρ g => k.ct ρ g
  | .er e _ g => k.er e g
  | .bad => False
/-- what is still to be run -/
def Ltr (b : SV) (k : Kt) (ρ : Rho) (g : GH) : Prop := wps (b ρ g) k
theorem ltr_eq (b : SV) (k : Kt) (ρ : Rho) (g : GH) : Ltr b k ρ g = wps (b ρ g) k := rfl
abbrev F0 : Exc → GH → Prop := fun _ _ => False
theorem wp.imp {α : Type} {r : Res α} {Q Q' : α → GH → Prop} {W W' : Exc → GH → Prop} (h : wp r Q W) (k : ∀ a g, Q a g → Q' a g) (kw : ∀ e g, W e g → W' e g) : wp r Q' W' := by
  cases r with
  | ok a g => exact k a g h
  | er e g => exact kw e g h
  | bad => exact h
/-- what a call without exceptions comes to -/
theorem wp.use {α : Type} {r : Res α} {Q Q' : α → GH → Prop} {W : Exc → GH → Prop} (h : wp r Q F0) (k : ∀ a g, Q a g → Q' a g) : wp r Q' W := h.imp k fun _ _ z => z.elim
theorem wp.and {α : Type} {r : Res α} {Q Q' : α → GH → Prop} {W W' : Exc → GH → Prop} (h : wp r Q W) (h' : wp r Q' W') : wp r (fun a g => Q a g ∧ Q' a g) (fun e g => W e g ∧ W' e g) := by
  cases r with
  | ok a g => exact ⟨h, h'⟩
  | er e g => exact ⟨h, h'⟩
  | bad => exact h
section
variable {α β : Type} {Q : α → GH → Prop} {QD : D → GH → Prop} {QL : List D → GH → Prop} {QB : Bool → GH → Prop} {QI : Src → GH → Prop} {QO : Option Int → GH → Prop} {W : Exc → GH → Prop} {ρ : Rho} {g : GH} {k : Kt}
@[simp] theorem wp_ok (a : α) : wp (.ok a g) Q W = Q a g := rfl
@[simp] theorem wp_er (e : Exc) : wp (.er e g) Q W = W e g := rfl
@[simp] theorem wp_bad : wp .bad Q W = False := rfl
@[simp] theorem wp_bind (r : Res β) (f : β → GH → Res α) : wp (r.bind f) Q W = wp r (fun b g => wp (f b g) Q W) W := by cases r <;> rfl
@[simp] theorem wpo_some (a : α) (g : GH) : wpo (some (a, g)) Q = Q a g := rfl
@[simp] theorem wpo_none : wpo none Q = False := rfl
@[simp] theorem wp_liftO (o : Option (α × GH)) : wp (liftO o) Q W = wpo o Q := by
  cases o with
  | none => rfl
  | some p => cases p; rfl
@[simp] theorem wpo_if (c : Prop) [Decidable c] (a : α) (g : GH) : wpo (if c then some (a, g) else none) Q = (c ∧ Q a g) := by
  by_cases h : c <;> simp [h]
@[simp] theorem wpo_map (o : Option β) (f : β → α × GH) : wpo (o.map f) Q = ∃ b, o = some b ∧ Q (f b).1 (f b).2 := by
  cases o <;> simp [wpo]
@[simp] theorem wp_eVar (i : Nat) : wp (eVar i ρ g) QD W = ∃ d, ρ[i]? = some (some d) ∧ QD d g := by
  unfold eVar
  split
  · rename_i d e
    simp [e]
  · rename_i e
    refine (eq_false ?_).symm
    rintro ⟨d, h, _⟩
    exact e d h
@[simp] theorem wp_eC (d : D) : wp (eC d ρ g) QD W = QD d g := rfl
@[simp] theorem wp_eBin (f : F2) (a b : EV) : wp (eBin f a b ρ g) QD W = wp (a ρ g) (fun d g1 => wp (b ρ g1) (fun e g2 => wpo (f d e g2) QD) W) W := by simp [eBin]
@[simp] theorem wp_eUn (f : F1) (a : EV) : wp (eUn f a ρ g) QD W = wp (a ρ g) (fun d g1 => wpo (f d g1) QD) W := by simp [eUn]
@[simp] theorem wp_eBi (f : FN) (as : AV) : wp (eBi f as ρ g) QD W = wp (as ρ g) (fun d g1 => wpo (f d g1) QD) W := by simp [eBi]
@[simp] theorem wp_aNil : wp (aNil ρ g) QL W = QL [] g := rfl
@[simp] theorem wp_aCons (a : EV) (as : AV) : wp (aCons a as ρ g) QL W = wp (a ρ g) (fun d g1 => wp (as ρ g1) (fun ds g2 => QL (d :: ds) g2) W) W := by simp [aCons]
@[simp] theorem wp_if (c : Prop) [Decidable c] (a b : Res α) : wp (if c then a else b) Q W = if c then wp a Q W else wp b Q W := by split <;> rfl
@[simp] theorem wp_eTup (as : AV) : wp (eTup as ρ g) QD W = wp (as ρ g) (fun ds g1 => ds.length ≤ 16777216 ∧ QD (.tup ds) g1) W := by
  simp only [eTup, wp_bind]
  congr 1
  funext ds g1
  by_cases h : ds.length ≤ 16777216 <;> simp [h]
@[simp] theorem wp_eLst (as : AV) : wp (eLst as ρ g) QD W = wp (as ρ g) (fun ds g1 => ds.length ≤ 16777216 ∧ QD (.ref g1.length) (g1 ++ [.lst ds])) W := by
  simp only [eLst, wp_bind]
  congr 1
  funext ds g1
  by_cases h : ds.length ≤ 16777216 <;> simp [h]
@[simp] theorem wp_tB3 (a : EV) : wp (tB3 a ρ g) QB W = wp (a ρ g) (fun d g1 => ∃ b, d = .bl b ∧ QB b g1) W := by
  simp only [tB3, wp_bind]
  congr 1
  funext d g1
  cases d <;> simp
@[simp] theorem wp_tAnd3 (a b : TV) : wp (tAnd3 a b ρ g) QB W = wp (a ρ g) (fun c g1 => (c = true → wp (b ρ g1) QB W) ∧ (c = false → QB false g1)) W := by
  simp only [tAnd3, wp_bind]
  congr 1
  funext c g1
  cases c <;> simp
@[simp] theorem wp_tOr3 (a b : TV) : wp (tOr3 a b ρ g) QB W = wp (a ρ g) (fun c g1 => (c = true → QB true g1) ∧ (c = false → wp (b ρ g1) QB W)) W := by
  simp only [tOr3, wp_bind]
  congr 1
  funext c g1
  cases c <;> simp
@[simp] theorem wp_tNot3 (a : TV) : wp (tNot3 a ρ g) QB W = wp (a ρ g) (fun c g1 => QB (!c) g1) W := by simp [tNot3]
@[simp] theorem wp_eAnd (a b : EV) : wp (eAnd a b ρ g) QD W = wp (a ρ g) (fun d g1 => ∃ c, d = .bl c ∧ (c = true → wp (b ρ g1) QD W) ∧ (c = false → QD (.bl false) g1)) W := by
  simp only [eAnd, wp_bind]
  congr 1
  funext d g1
  cases d with
  | bl c => cases c <;> simp
  | _ => simp
@[simp] theorem wp_eOr (a b : EV) : wp (eOr a b ρ g) QD W = wp (a ρ g) (fun d g1 => ∃ c, d = .bl c ∧ (c = true → QD (.bl true) g1) ∧ (c = false → wp (b ρ g1) QD W)) W := by
  simp only [eOr, wp_bind]
  congr 1
  funext d g1
  cases d with
  | bl c => cases c <;> simp
  | _ => simp
@[simp] theorem wp_eNot (a : EV) : wp (eNot a ρ g) QD W = wp (a ρ g) (fun d g1 => ∃ c, d = .bl c ∧ QD (.bl !c) g1) W := by
  simp only [eNot, wp_bind]
  congr 1
  funext d g1
  cases d <;> simp
@[simp] theorem wp_eIf (t : TV) (a b : EV) : wp (eIf t a b ρ g) QD W = wp (t ρ g) (fun c g1 => (c = true → wp (a ρ g1) QD W) ∧ (c = false → wp (b ρ g1) QD W)) W := by
  simp only [eIf, wp_bind]
  congr 1
  funext c g1
  cases c <;> simp
@[simp] theorem wp_eCall (f : List D → GH → Res D) (as : AV) : wp (eCall f as ρ g) QD W = wp (as ρ g) (fun ds g1 => wp (f ds g1) QD W) W := by simp [eCall]
@[simp] theorem wp_eChain (f1 f2 : F2) (a b c : EV) : wp (eChain f1 f2 a b c ρ g) QD W = wp (a ρ g) (fun x g1 => wp (b ρ g1) (fun y g2 => wpo (f1 x y g2) fun q g3 => ∃ d, q = .bl d ∧ (d = true → wp (c ρ g3) (fun z g4 => wpo (f2 y z g4) QD) W) ∧ (d = false → QD (.bl false) g3)) W) W := by
  simp only [eChain, wp_bind, wp_liftO]
  congr 1
  funext x g1
  congr 1
  funext y g2
  congr 1
  funext q g3
  cases q with
  | bl c => cases c <;> simp
  | _ => simp
@[simp] theorem wp_eIsB (t : BT) (a : EV) : wp (eIsB t a ρ g) QD W = wp (a ρ g) (fun d g1 => ∃ b, isB t d g1 = some b ∧ QD (.bl b) g1) W := by
  simp only [eIsB, wp_bind]
  congr 1
  funext d g1
  cases isB t d g1 <;> simp
@[simp] theorem wp_oNone : wp (oNone ρ g) QO W = QO none g := rfl
@[simp] theorem wp_oSome (a : EV) : wp (oSome a ρ g) QO W = wp (a ρ g) (fun d g1 => ∃ i, d = .int i ∧ QO (some i) g1) W := by
  simp only [oSome, wp_bind]
  congr 1
  funext d g1
  cases d <;> simp
@[simp] theorem wp_eSl (a : EV) (lo hi : OV) : wp (eSl a lo hi ρ g) QD W = wp (a ρ g) (fun d g1 => wp (lo ρ g1) (fun l g2 => wp (hi ρ g2) (fun h g3 => wpo (opSl d l h g3) QD) W) W) W := by simp [eSl]
@[simp] theorem wp_eApp (o a : EV) : wp (eApp o a ρ g) QD W = wp (o ρ g) (fun d g1 => (∃ xs, d = .rol xs ∧ wp (a ρ g1) (fun _ _ => False) W) ∨ ∃ i xs, d = .ref i ∧ g1[i]? = some (.lst xs) ∧ wp (a ρ g1) (fun e g2 => ∃ ds, g2[i]? = some (.lst ds) ∧ ds.length < 16777216 ∧ QD .non (g2.set i (.lst (ds ++ [e])))) W) W := by
  simp only [eApp, wp_bind]
  congr 1
  funext d g1
  cases d with
  | ref i =>
    cases e : g1[i]? with
    | none => simp [lstOf, e]
    | some o =>
      cases o with
      | lst xs =>
        simp only [lstOf, e, wp_bind]
        simp only [D.ref.injEq, Option.some.injEq, GO.lst.injEq, reduceCtorEq, false_and, exists_const, false_or]
        refine propext ⟨fun h => ⟨i, xs, rfl, e, h.imp (fun x g2 q => ?_) fun _ _ z => z⟩, ?_⟩
        · cases e2 : g2[i]? with
          | none => rw [e2] at q; exact q.elim
          | some o2 =>
            rw [e2] at q
            cases o2 with
            | lst ds =>
              simp only at q
              split at q
              · exact ⟨ds, rfl, by assumption, q⟩
              · exact q.elim
            | _ => exact q.elim
        · rintro ⟨j, ys, rfl, e3, h⟩
          refine h.imp (fun x g2 q => ?_) fun _ _ z => z
          obtain ⟨ds, e4, h5, q⟩ := q
          rw [e4]
          simp only
          rw [if_pos h5]
          exact q
      | iset ks => simp [lstOf, e]
      | dct ks => simp [lstOf, e]
  | rol xs => simp [lstOf]
  | _ => simp [lstOf]
/-! ### sources -/
@[simp] theorem wp_iSeq (a : EV) : wp (iSeq a ρ g) QI W = wp (a ρ g) (fun d g1 => (∃ ds, (d = .tup ds ∨ d = .rol ds) ∧ QI ⟨[], ds⟩ g1) ∨ ∃ i ds, d = .ref i ∧ g1[i]? = some (.lst ds) ∧ QI ⟨[(i, ds)], ds⟩ g1) W := by
  simp only [iSeq, wp_bind]
  congr 1
  funext d g1
  cases d with
  | ref i =>
    cases e : g1[i]? with
    | none => simp [e]
    | some o => cases o <;> simp [e]
  | _ => simp
@[simp] theorem wp_iRg1 (a : EV) : wp (iRg1 a ρ g) QI W = wp (a ρ g) (fun d g1 => ∃ n, d = .int n ∧ (-4611686018427387904 ≤ n ∧ n < 4611686018427387904) ∧ QI ⟨[], rangeD 0 n⟩ g1) W := by
  simp only [iRg1, wp_bind]
  congr 1
  funext d g1
  cases d with
  | int n => by_cases h : -4611686018427387904 ≤ n ∧ n < 4611686018427387904 <;> simp [h]
  | _ => simp
@[simp] theorem wp_iRg2 (a b : EV) : wp (iRg2 a b ρ g) QI W = wp (a ρ g) (fun d g1 => wp (b ρ g1) (fun e g2 => ∃ n m, d = .int n ∧ e = .int m ∧ (-4611686018427387904 ≤ n ∧ n < 4611686018427387904 ∧ -4611686018427387904 ≤ m ∧ m < 4611686018427387904) ∧ QI ⟨[], rangeD n m⟩ g2) W) W := by
  simp only [iRg2, wp_bind]
  congr 1
  funext d g1
  congr 1
  funext e g2
  cases d with
  | int n =>
    cases e with
    | int m => by_cases h : -4611686018427387904 ≤ n ∧ n < 4611686018427387904 ∧ -4611686018427387904 ≤ m ∧ m < 4611686018427387904 <;> simp [h]
    | _ => simp
  | _ => simp
@[simp] theorem wp_tYes3 : wp (tYes3 ρ g) QB W = QB true g := rfl
@[simp] theorem wp_eComp (src : IV) (t : T3) (test : TV) (elt : EV) (own : List Nat) :
    wp (eComp src t test elt own ρ g) QD W = wp (src ρ g) (fun s g1 => s.items.length < 16777216 ∧ wp (compL s.deps t test elt (wipeR ρ own) s.items g1) (fun ys g2 => QD (.ref g2.length) (g2 ++ [.lst ys])) W) W := by
  simp only [eComp, wp_bind]
  congr 1
  funext s g1
  by_cases h : s.items.length < 16777216 <;> simp [h]
theorem wp_noEr {r : Res α} (h : wp r Q F0) : wp (noEr r) Q W := by
  cases r with
  | ok a g => exact h
  | er e g => exact h.elim
  | bad => exact h.elim
theorem wp_comp {deps : Deps} {t : T3} {test : TV} {elt : EV} (I : List D → List D → GH → Prop) (hd : ∀ xs ys g, I xs ys g → depsOk g deps = true)
    (hs : ∀ x xs ys g, I (x :: xs) ys g → ∃ ρ', t.set x ρ = some ρ' ∧ wp (test ρ' g) (fun b g1 => (b = true → wp (elt ρ' g1) (fun y g2 => I xs (ys ++ [y]) g2) F0) ∧ (b = false → I xs ys g1)) F0) :
    ∀ (items done : List D) (g : GH) (QL : List D → GH → Prop), I items done g → (∀ ys g, I [] (done ++ ys) g → QL ys g) → wp (compL deps t test elt ρ items g) QL W
  | [], done, g, QL, h, hn => by
    unfold compL
    rw [if_pos (hd _ _ _ h)]
    exact hn [] g (by simpa using h)
  | x :: xs, done, g, QL, h, hn => by
    unfold compL
    rw [if_pos (hd _ _ _ h)]
    obtain ⟨ρ', e, h1⟩ := hs _ _ _ _ h
    simp only [e, wp_bind]
    refine wp_noEr (h1.use fun b g1 h2 => ?_)
    cases b with
    | false =>
      simp only [Bool.false_eq_true, if_false]
      exact wp_comp I hd hs xs done g1 QL (h2.2 rfl) hn
    | true =>
      simp only [if_true, wp_bind]
      refine wp_noEr ((h2.1 rfl).use fun y g2 h3 => ?_)
      refine wp_comp I hd hs xs (done ++ [y]) g2 _ h3 fun ys g4 h4 => ?_
      exact hn (y :: ys) g4 (by simpa using h4)
/-! ### statements -/
@[simp] theorem wps_bindS (r : Res α) (f : α → GH → Out) : wps (bindS r ρ f) k = wp r (fun a g => wps (f a g) k) k.er := by cases r <;> rfl
@[simp] theorem wps_nx : wps (.nx ρ g) k = k.nx ρ g := rfl
@[simp] theorem wps_rt (d : D) : wps (.rt d g) k = k.rt d g := rfl
@[simp] theorem wps_bk : wps (.bk ρ g) k = k.bk ρ g := rfl
@[simp] theorem wps_ct : wps (.ct ρ g) k = k.ct ρ g := rfl
@[simp] theorem wps_er (e : Exc) : wps (.er e ρ g) k = k.er e g := rfl
@[simp] theorem wps_bad : wps .bad k = False := rfl
@[simp] theorem wps_sNil : wps (sNil ρ g) k = k.nx ρ g := rfl
@[simp] theorem wps_sSeq (a b : SV) : wps (sSeq a b ρ g) k = wps (a ρ g) { k with nx := Ltr b k } := by
  unfold sSeq
  cases a ρ g <;> rfl
@[simp] theorem wps_sAsg (i : Nat) (e : EV) : wps (sAsg (.one i) e ρ g) k = wp (e ρ g) (fun d g1 => k.nx (ρ.set i (some d)) g1) k.er := by simp [sAsg, T3.set]
@[simp] theorem wps_sAsgT (is : List Nat) (e : EV) : wps (sAsg (.tup is) e ρ g) k = wp (e ρ g) (fun d g1 => ∃ ds, d = .tup ds ∧ ds.length = is.length ∧ k.nx (setR ρ is ds) g1) k.er := by
  simp only [sAsg, wps_bindS]
  congr 1
  funext d g1
  cases d with
  | tup ds => by_cases h : ds.length = is.length <;> simp [T3.set, h]
  | _ => simp [T3.set]
@[simp] theorem wps_sPar (i j : Nat) (a b : EV) : wps (sPar i j a b ρ g) k = wp (a ρ g) (fun d g1 => wp (b ρ g1) (fun e g2 => k.nx ((ρ.set i (some d)).set j (some e)) g2) k.er) k.er := by simp [sPar]
@[simp] theorem wps_sPar3 (i j l : Nat) (a b c : EV) : wps (sPar3 i j l a b c ρ g) k = wp (a ρ g) (fun d g1 => wp (b ρ g1) (fun e g2 => wp (c ρ g2) (fun f g3 => k.nx (((ρ.set i (some d)).set j (some e)).set l (some f)) g3) k.er) k.er) k.er := by simp [sPar3]
@[simp] theorem wps_sExp (e : EV) : wps (sExp e ρ g) k = wp (e ρ g) (fun _ g1 => k.nx ρ g1) k.er := by simp [sExp]
@[simp] theorem wps_sRet (e : EV) : wps (sRet e ρ g) k = wp (e ρ g) (fun d g1 => k.rt d g1) k.er := by simp [sRet]
@[simp] theorem wps_sIf (t : TV) (a b : SV) : wps (sIf t a b ρ g) k = wp (t ρ g) (fun c g1 => (c = true → Ltr a k ρ g1) ∧ (c = false → Ltr b k ρ g1)) k.er := by
  simp only [sIf, wps_bindS]
  congr 1
  funext c g1
  cases c <;> simp [Ltr]
@[simp] theorem wps_sBrk : wps (sBrk ρ g) k = k.bk ρ g := rfl
@[simp] theorem wps_sCnt : wps (sCnt ρ g) k = k.ct ρ g := rfl
@[simp] theorem wps_sRaise (c : Nat) : wps (sRaise c ρ g) k = k.er (.own c) g := rfl
@[simp] theorem wps_sSetIx (fs : D → D → D → GH → Option GH) (o i e : EV) : wps (sSetIx fs o i e ρ g) k = wp (e ρ g) (fun x g1 => wp (o ρ g1) (fun d g2 => wp (i ρ g2) (fun j g3 => ∃ g4, fs d j x g3 = some g4 ∧ k.nx ρ g4) k.er) k.er) k.er := by
  simp only [sSetIx, wps_bindS]
  congr 1
  funext x g1
  congr 1
  funext d g2
  congr 1
  funext j g3
  cases fs d j x g3 <;> simp
@[simp] theorem wps_sFor (src : IV) (t : T3) (b : SV) : wps (sFor src t b ρ g) k = wp (src ρ g) (fun s g1 => wps (forL s.deps (stepOf t b) s.items ρ g1) k) k.er := by simp [sFor]
@[simp] theorem wp_runB (b : SV) (n : Nat) (ds : List D) : wp (runB b n ds g) QD W = wps (b (ds.map some ++ List.replicate (n - ds.length) none) g) ⟨fun _ g => QD .non g, QD, fun _ _ => False, fun _ _ => False, W⟩ := by
  unfold runB
  cases b (ds.map some ++ List.replicate (n - ds.length) none) g <;> rfl
@[simp] theorem wps_stepOf (i : Nat) (b : SV) (d : D) : wps (stepOf (.one i) b d ρ g) k = wps (b (ρ.set i (some d)) g) k := rfl
theorem wps_stepT (is : List Nat) (b : SV) (d : D) : wps (stepOf (.tup is) b d ρ g) k = ∃ ds, d = .tup ds ∧ ds.length = is.length ∧ wps (b (setR ρ is ds) g) k := by
  cases d with
  | tup ds => by_cases h : ds.length = is.length <;> simp [stepOf, T3.set, h]
  | _ => simp [stepOf, T3.set]
theorem wps_for {deps : Deps} {step : D → SV} {all : List D} (I : List D → Rho → GH → Prop) (hd : ∀ xs ρ g, I xs ρ g → depsOk g deps = true)
    (hs : ∀ x xs ρ g, x ∈ all → I (x :: xs) ρ g → wps (step x ρ g) { k with nx := I xs, ct := I xs, bk := k.nx }) (hn : ∀ ρ g, I [] ρ g → k.nx ρ g) :
    ∀ (items : List D), (∀ x ∈ items, x ∈ all) → ∀ (ρ : Rho) (g : GH), I items ρ g → wps (forL deps step items ρ g) k
  | [], _, ρ, g, h => by
    unfold forL
    rw [if_pos (hd _ _ _ h)]
    exact hn ρ g h
  | x :: xs, hm, ρ, g, h => by
    unfold forL
    rw [if_pos (hd _ _ _ h)]
    have h1 := hs x xs ρ g (hm x (by simp)) h
    have ih := wps_for I hd hs hn xs fun y hy => hm y (by simp [hy])
    cases e : step x ρ g with
    | nx ρ' g' => rw [e] at h1; exact ih ρ' g' h1
    | ct ρ' g' => rw [e] at h1; exact ih ρ' g' h1
    | bk ρ' g' => rw [e] at h1; exact h1
    | rt d g' => rw [e] at h1; exact h1
    | er x ρ' g' => rw [e] at h1; exact h1
    | bad => rw [e] at h1; exact h1
theorem wps_while {t : TV} {b : SV} (I : Nat → Rho → GH → Prop)
    (hs : ∀ m ρ g, I m ρ g → wp (t ρ g) (fun c g1 => (c = true → ∃ m', m = m' + 1 ∧ wps (b ρ g1) { k with nx := I m', ct := I m', bk := k.nx }) ∧ (c = false → k.nx ρ g1)) k.er) :
    ∀ (m n : Nat) (ρ : Rho) (g : GH), m < n → I m ρ g → wps (whileL t b n ρ g) k
  | m, 0, ρ, g, h, _ => by omega
  | m, n + 1, ρ, g, h, i => by
    unfold whileL
    rw [wps_bindS]
    refine (hs m ρ g i).imp (fun c g1 q => ?_) fun _ _ z => z
    cases c with
    | false => exact q.2 rfl
    | true =>
      obtain ⟨m', rfl, q2⟩ := q.1 rfl
      clear q
      have ih := fun ρ g => wps_while I hs m' n ρ g (by omega)
      simp only [if_true]
      cases e : b ρ g1 with
      | nx ρ' g' => rw [e] at q2; exact ih ρ' g' q2
      | ct ρ' g' => rw [e] at q2; exact ih ρ' g' q2
      | bk ρ' g' => rw [e] at q2; exact q2
      | rt d g' => rw [e] at q2; exact q2
      | er x ρ' g' => rw [e] at q2; exact q2
      | bad => rw [e] at q2; exact q2
end
end L3

/-! L3l: operators on known values, heaps that grow, the shared functions' laws. -/
namespace L3
open PySem L2
section
variable {Q : D → GH → Prop} {g : GH}
@[simp] theorem add_int (i j : Int) : wpo (opAdd (.int i) (.int j) g) Q = Q (.int (i + j)) g := rfl
@[simp] theorem add_tup (a b : List D) : wpo (opAdd (.tup a) (.tup b) g) Q = (a.length + b.length ≤ 16777216 ∧ Q (.tup (a ++ b)) g) := by
  show wpo (if a.length + b.length ≤ 16777216 then some (.tup (a ++ b), g) else none) Q = _
  rw [wpo_if]
@[simp] theorem add_str (a b : Str) : wpo (opAdd (.str a) (.str b) g) Q = (a.length + b.length ≤ 16777216 ∧ Q (.str (a ++ b)) g) := by
  show wpo (if a.length + b.length ≤ 16777216 then some (.str (a ++ b), g) else none) Q = _
  rw [wpo_if]
theorem add_ref {i j : Nat} {a b : List D} (h1 : g[i]? = some (.lst a)) (h2 : g[j]? = some (.lst b)) : wpo (opAdd (.ref i) (.ref j) g) Q = (a.length + b.length ≤ 16777216 ∧ Q (.ref g.length) (g ++ [.lst (a ++ b)])) := by
  simp only [opAdd, h1, h2]
  rw [wpo_if]
@[simp] theorem sub_int (i j : Int) : wpo (opSub (.int i) (.int j) g) Q = Q (.int (i - j)) g := rfl
@[simp] theorem mul_int (i j : Int) : wpo (opMul (.int i) (.int j) g) Q = (i.natAbs.log2 + j.natAbs.log2 < 1000000 ∧ Q (.int (i * j)) g) := by
  show wpo (if i.natAbs.log2 + j.natAbs.log2 < 1000000 then some (.int (i * j), g) else none) Q = _
  rw [wpo_if]
@[simp] theorem mul_tup (a : List D) (k : Int) : wpo (opMul (.tup a) (.int k) g) Q = ((a.length ≠ 0 ∧ 2 ≤ k ∧ k ≤ 1000 ∧ a.length ≤ 1000) ∧ Q (.tup (List.replicate k.toNat a).flatten) g) := by
  show wpo (if a.length ≠ 0 ∧ 2 ≤ k ∧ k ≤ 1000 ∧ a.length ≤ 1000 then some (.tup (List.replicate k.toNat a).flatten, g) else none) Q = _
  rw [wpo_if]
theorem mul_ref {i : Nat} {k : Int} {a : List D} (h : g[i]? = some (.lst a)) : wpo (opMul (.ref i) (.int k) g) Q = ((0 ≤ k ∧ k ≤ 1000000 ∧ a.length * k.toNat ≤ 16777216) ∧ Q (.ref g.length) (g ++ [.lst (List.replicate k.toNat a).flatten])) := by
  simp only [opMul, h]
  rw [wpo_if]
@[simp] theorem div_int (i j : Int) : wpo (opDiv (.int i) (.int j) g) Q = ((0 < j ∧ j.natAbs.log2 < 9000) ∧ Q (.int (i / j)) g) := by
  show wpo (if 0 < j ∧ j.natAbs.log2 < 9000 then some (.int (i / j), g) else none) Q = _
  rw [wpo_if]
@[simp] theorem mod_int (i j : Int) : wpo (opMod (.int i) (.int j) g) Q = (0 < j ∧ Q (.int (i % j)) g) := by
  show wpo (if 0 < j then some (.int (i % j), g) else none) Q = _
  rw [wpo_if]
@[simp] theorem pow_int (i j : Int) : wpo (opPow (.int i) (.int j) g) Q = ((0 ≤ j ∧ j ≤ 1000000 ∧ i.natAbs < 18446744073709551616) ∧ Q (.int (i ^ j.toNat)) g) := by
  show wpo (if 0 ≤ j ∧ j ≤ 1000000 ∧ i.natAbs < 18446744073709551616 then some (.int (i ^ j.toNat), g) else none) Q = _
  rw [wpo_if]
@[simp] theorem neg_int (i : Int) : wpo (opNeg (.int i) g) Q = Q (.int (-i)) g := rfl
@[simp] theorem lt_int (i j : Int) : wpo (opLt (.int i) (.int j) g) Q = Q (.bl (decide (i < j))) g := rfl
@[simp] theorem le_int (i j : Int) : wpo (opLe (.int i) (.int j) g) Q = Q (.bl (decide (i ≤ j))) g := rfl
@[simp] theorem gt_int (i j : Int) : wpo (opGt (.int i) (.int j) g) Q = Q (.bl (decide (j < i))) g := rfl
@[simp] theorem ge_int (i j : Int) : wpo (opGe (.int i) (.int j) g) Q = Q (.bl (decide (j ≤ i))) g := rfl
@[simp] theorem eq_int (i j : Int) : wpo (opEq (.int i) (.int j) g) Q = Q (.bl (decide (i = j))) g := by
  have e : PyData.eqv (.int i) (.int j) = decide (i = j) := by rw [PyData.eqv]; rfl
  simp [opEq, toPy, e]
@[simp] theorem ne_int (i j : Int) : wpo (opNe (.int i) (.int j) g) Q = Q (.bl (!decide (i = j))) g := by
  have e : PyData.eqv (.int i) (.int j) = decide (i = j) := by rw [PyData.eqv]; rfl
  simp [opNe, toPy, e]
@[simp] theorem is_bl (a b : Bool) : wpo (opIs (.bl a) (.bl b) g) Q = Q (.bl (decide (a = b))) g := rfl
@[simp] theorem isNot_bl (a b : Bool) : wpo (opIsNot (.bl a) (.bl b) g) Q = Q (.bl (!decide (a = b))) g := rfl
theorem eq_py {d e : D} {p q : PyData} (h1 : toPy g 16 d = some p) (h2 : toPy g 16 e = some q) : wpo (opEq d e g) Q = Q (.bl (PyData.eqv p q)) g := by simp [opEq, h1, h2]
theorem ne_py {d e : D} {p q : PyData} (h1 : toPy g 16 d = some p) (h2 : toPy g 16 e = some q) : wpo (opNe d e g) Q = Q (.bl (!PyData.eqv p q)) g := by simp [opNe, h1, h2]
@[simp] theorem ix_tup (ds : List D) (i : Int) : wpo (opIx (.tup ds) (.int i) g) Q = ∃ x, atI ds i = some x ∧ Q x g := by
  show wpo ((atI ds i).map fun x => (x, g)) Q = _
  rw [wpo_map]
theorem lst_get {i : Nat} {ds : List D} (h : lstOf g (.ref i) = some ds) : g[i]? = some (.lst ds) := by
  have h2 : (match g[i]? with | some (.lst ds) => some ds | _ => none) = some ds := h
  split at h2
  · rename_i es e
    cases h2
    exact e
  · cases h2
theorem ix_lst {d : D} {ds : List D} (h : lstOf g d = some ds) (i : Int) : wpo (opIx d (.int i) g) Q = ∃ x, atI ds i = some x ∧ Q x g := by
  have e : opIx d (.int i) g = (atI ds i).map fun x => (x, g) := by
    cases d with
    | rol es => simp [lstOf] at h; subst h; rfl
    | ref k =>
      simp only [opIx, lst_get h]
    | _ => simp [lstOf] at h
  rw [e, wpo_map]
theorem lst_ref {i : Nat} {ds : List D} (h : g[i]? = some (.lst ds)) : lstOf g (.ref i) = some ds := by simp [lstOf, h]
@[simp] theorem len_tup (ds : List D) : wpo (fLen [.tup ds] g) Q = Q (.int ds.length) g := rfl
theorem len_lst {d : D} {ds : List D} (h : lstOf g d = some ds) : wpo (fLen [d] g) Q = Q (.int ds.length) g := by
  have e : fLen [d] g = (lstOf g d).map fun ds => (.int ds.length, g) := by cases d <;> first | rfl | simp [lstOf] at h
  rw [e, h]
  rfl
@[simp] theorem abs_int (i : Int) : wpo (fAbs [.int i] g) Q = Q (.int (if i < 0 then -i else i)) g := rfl
@[simp] theorem min_int (i j : Int) : wpo (fMin [.int i, .int j] g) Q = Q (.int (if j < i then j else i)) g := rfl
@[simp] theorem max_int (i j : Int) : wpo (fMax [.int i, .int j] g) Q = Q (.int (if j > i then j else i)) g := rfl
@[simp] theorem int_int (i : Int) : wpo (fInt [.int i] g) Q = Q (.int i) g := rfl
theorem sum_lst {d : D} {ds : List D} {is : List Int} (h : lstOf g d = some ds) (h2 : intsOf ds = some is) : wpo (fSum [d] g) Q = Q (.int is.sum) g := by
  show wpo (match (lstOf g d).bind intsOf with | some is => some (.int is.sum, g) | none => none) Q = _
  rw [h]
  simp [h2]
@[simp] theorem tuple_tup (ds : List D) : wpo (fTuple [.tup ds] g) Q = Q (.tup ds) g := rfl
theorem tuple_lst {d : D} {ds : List D} (h : lstOf g d = some ds) : wpo (fTuple [d] g) Q = Q (.tup ds) g := by
  have e : fTuple [d] g = (lstOf g d).map fun ds => (.tup ds, g) := by cases d <;> first | rfl | simp [lstOf] at h
  rw [e, h]
  rfl
@[simp] theorem list_tup (ds : List D) : wpo (fList [.tup ds] g) Q = Q (.ref g.length) (g ++ [.lst ds]) := rfl
theorem list_lst {d : D} {ds : List D} (h : lstOf g d = some ds) : wpo (fList [d] g) Q = Q (.ref g.length) (g ++ [.lst ds]) := by
  have e : fList [d] g = (lstOf g d).map fun ds => (.ref g.length, g ++ [.lst ds]) := by cases d <;> first | rfl | simp [lstOf] at h
  rw [e, h]
  rfl
@[simp] theorem sl_tup (ds : List D) (lo hi : Option Int) : wpo (opSl (.tup ds) lo hi g) Q = Q (.tup (cutD ds lo hi)) g := rfl
end
@[simp] theorem isB_int (t : BT) (i : Int) (g : GH) : isB t (.int i) g = some (match t with | .tint => true | _ => false) := rfl
@[simp] theorem isB_bl (t : BT) (i : Bool) (g : GH) : isB t (.bl i) g = some (match t with | .tint => true | .tbool => true | _ => false) := rfl
@[simp] theorem isB_non (t : BT) (g : GH) : isB t .non g = some false := rfl
@[simp] theorem isB_str (t : BT) (i : Str) (g : GH) : isB t (.str i) g = some (match t with | .tstr => true | _ => false) := rfl
@[simp] theorem isB_tup (t : BT) (i : List D) (g : GH) : isB t (.tup i) g = some (match t with | .ttuple => true | _ => false) := rfl
@[simp] theorem isB_rol (t : BT) (i : List D) (g : GH) : isB t (.rol i) g = some (match t with | .tlist => true | _ => false) := rfl
theorem isB_ref {t : BT} {i : Nat} {g : GH} {ds : List D} (h : g[i]? = some (.lst ds)) : isB t (.ref i) g = some (match t with | .tlist => true | _ => false) := by
  simp only [isB, h]
  all_goals (cases t <;> rfl)
/-! ### places in lists -/
theorem atI_nat {α : Type} {xs : List α} {i : Int} {n : Nat} (h : i = (n : Int)) (hn : n < xs.length) : atI xs i = some xs[n] := by
  subst h
  unfold atI ixN
  rw [if_pos (by omega), if_pos (by omega)]
  simp [hn]
theorem atI_mem {α : Type} {xs : List α} {i : Int} (h : 0 ≤ i) (hn : i < xs.length) : ∃ x, atI xs i = some x ∧ x ∈ xs := by
  obtain ⟨n, rfl⟩ := Int.eq_ofNat_of_zero_le h
  exact ⟨_, atI_nat rfl (by omega), List.getElem_mem _⟩
@[simp] theorem atI_zero {α : Type} (a : α) (r : List α) : atI (a :: r) 0 = some a := atI_nat (n := 0) rfl (by simp)
@[simp] theorem atI_one {α : Type} (a b : α) (r : List α) : atI (a :: b :: r) 1 = some b := atI_nat (n := 1) rfl (by simp)
@[simp] theorem atI_two {α : Type} (a b c : α) (r : List α) : atI (a :: b :: c :: r) 2 = some c := atI_nat (n := 2) rfl (by simp)
@[simp] theorem atI_three {α : Type} (a b c d : α) (r : List α) : atI (a :: b :: c :: d :: r) 3 = some d := atI_nat (n := 3) rfl (by simp)
@[simp] theorem ixN_nat (n i : Nat) : ixN n (i : Int) = if i < n then some i else none := by
  unfold ixN
  rw [if_pos (by omega)]
  by_cases h : i < n
  · rw [if_pos (by omega), if_pos h]; simp
  · rw [if_neg (by omega), if_neg h]
/-! ### heaps -/
/-- more objects, the old ones as they were -/
def App (g g' : GH) : Prop := ∃ j, g' = g ++ j
theorem App.refl (g : GH) : App g g := ⟨[], by simp⟩
theorem App.trans {a b c : GH} (h : App a b) (h' : App b c) : App a c := by
  obtain ⟨i, rfl⟩ := h
  obtain ⟨j, rfl⟩ := h'
  exact ⟨i ++ j, by simp⟩
theorem App.one (g : GH) (o : GO) : App g (g ++ [o]) := ⟨_, rfl⟩
theorem App.get {g g' : GH} (h : App g g') {i : Nat} {o : GO} (e : g[i]? = some o) : g'[i]? = some o := by
  obtain ⟨j, rfl⟩ := h
  rw [List.getElem?_append_left (List.getElem?_eq_some_iff.mp e).1, e]
theorem App.len {g g' : GH} (h : App g g') : g.length ≤ g'.length := by
  obtain ⟨j, rfl⟩ := h
  simp
@[simp] theorem get_end (g : GH) (o : GO) : (g ++ [o])[g.length]? = some o := by simp
theorem app_lst {g g' : GH} (h : App g g') {d : D} {ds : List D} (e : lstOf g d = some ds) : lstOf g' d = some ds := by
  cases d with
  | ref i => exact lst_ref (h.get (lst_get e))
  | rol es => exact e
  | _ => simp [lstOf] at e
/-- the flask r may change, all else stays -/
def Kp (r : Nat) (g g' : GH) : Prop := g.length ≤ g'.length ∧ ∀ i o, i ≠ r → g[i]? = some o → g'[i]? = some o
theorem Kp.refl (r : Nat) (g : GH) : Kp r g g := ⟨Nat.le_refl _, fun _ _ _ h => h⟩
theorem Kp.trans {r : Nat} {a b c : GH} (h : Kp r a b) (h' : Kp r b c) : Kp r a c := ⟨Nat.le_trans h.1 h'.1, fun i o n e => h'.2 i o n (h.2 i o n e)⟩
theorem App.kp {g g' : GH} (h : App g g') (r : Nat) : Kp r g g' := ⟨h.len, fun _ _ _ e => h.get e⟩
theorem Kp.set {r : Nat} {g : GH} (o : GO) : Kp r g (g.set r o) := ⟨by simp, fun i o' n e => by rw [List.getElem?_set_ne (Ne.symm n)]; exact e⟩
/-- a flask -/
def Fk (r : Nat) (g : GH) : Prop := ∃ a b : Int, g[r]? = some (.lst [.int a, .int b]) ∧ 0 ≤ a ∧ 0 ≤ b ∧ b ≤ 2147482577
theorem Fk.app {r : Nat} {g g' : GH} (h : Fk r g) (a : App g g') : Fk r g' := by
  obtain ⟨x, y, e, h⟩ := h
  exact ⟨x, y, a.get e, h⟩
theorem Fk.lt {r : Nat} {g : GH} (h : Fk r g) : r < g.length := by
  obtain ⟨x, y, e, h⟩ := h
  exact (List.getElem?_eq_some_iff.mp e).1
/-! ### sizes -/
theorem lg_small {i j : Int} (h : i.natAbs + j.natAbs < 1000000) : i.natAbs.log2 + j.natAbs.log2 < 1000000 := by
  have h1 := Nat.log2_le_self i.natAbs
  have h2 := Nat.log2_le_self j.natAbs
  omega
def Big : Int := 10 ^ 600
theorem lg_big {i : Int} (h : -Big ≤ i) (h2 : i ≤ Big) : i.natAbs.log2 < 4000 := by
  have e : i.natAbs ≤ 10 ^ 600 := by
    have : Big = ((10 ^ 600 : Nat) : Int) := by unfold Big; decide +kernel
    rw [this] at h h2
    generalize (10 ^ 600 : Nat) = B at h h2 ⊢
    omega
  by_cases z : i.natAbs = 0
  · rw [z]; decide
  · exact (Nat.log2_lt z).mpr (Nat.lt_of_le_of_lt e (by decide +kernel))
theorem lg2_big {i j : Int} (h : -Big ≤ i ∧ i ≤ Big) (h2 : -Big ≤ j ∧ j ≤ Big) : i.natAbs.log2 + j.natAbs.log2 < 1000000 := by
  have a := lg_big h.1 h.2
  have b := lg_big h2.1 h2.2
  omega
theorem lg_mid {i j : Int} (h : -1000000000000000000 ≤ i ∧ i ≤ 1000000000000000000) (h2 : -1000000000000000000 ≤ j ∧ j ≤ 1000000000000000000) : i.natAbs.log2 + j.natAbs.log2 < 1000000 := by
  have : (1000000000000000000 : Int) ≤ Big := by decide +kernel
  exact lg2_big ⟨by omega, by omega⟩ ⟨by omega, by omega⟩
theorem big_ge : (10 : Int) ^ 300 ≤ Big := by decide +kernel
end L3

/-! L3m: values of bounded depth; their comparison. -/
namespace L3
open PySem L2
theorem eq_of_wp {α : Type} {r : Res α} {v : α} {g : GH} (h : wp r (fun a g' => a = v ∧ g' = g) F0) : r = .ok v g := by
  cases r with
  | ok a g' => obtain ⟨rfl, rfl⟩ := h; rfl
  | er e g' => exact h.elim
  | bad => exact h.elim
theorem er_of_wp {α : Type} {r : Res α} {x : Exc} {g : GH} (h : wp r (fun _ _ => False) (fun e g' => e = x ∧ g' = g)) : r = .er x g := by
  cases r with
  | ok a g' => exact h.elim
  | er e g' => obtain ⟨rfl, rfl⟩ := h; rfl
  | bad => exact h.elim
theorem ok_of_wp {α : Type} {r : Res α} {Q : α → GH → Prop} (h : wp r Q F0) : ∃ a g, r = .ok a g ∧ Q a g := by
  cases r with
  | ok a g' => exact ⟨a, g', rfl, h⟩
  | er e g' => exact h.elim
  | bad => exact h.elim
@[simp] theorem wp_eWord {Q : D → GH → Prop} {W : Exc → GH → Prop} (e : EV) (ρ : Rho) (g : GH) : wp (eWord e ρ g) Q W = wp (e ρ g) (fun _ g1 => Q (.str "") g1) (fun x g1 => ∃ c w, x = .own c ∧ wordS[c]? = some w ∧ Q (.str w) g1) := by
  unfold eWord wordR
  cases e ρ g with
  | ok d g1 => rfl
  | bad => rfl
  | er x g1 =>
    cases x with
    | own c =>
      simp only [wp_er, Exc.own.injEq]
      cases z : wordS[c]? with
      | none => simp [z]
      | some w => simp [z]
    | lim c d => simp
theorem lst_kp {r : Nat} {g g' : GH} (K : Kp r g g') {d : D} {ds : List D} (hd : d ≠ .ref r) (e : lstOf g d = some ds) : lstOf g' d = some ds := by
  cases d with
  | ref i => exact lst_ref (K.2 _ _ (fun z => hd (by rw [z])) (by
      have h2 : (match g[i]? with | some (.lst ds) => some ds | _ => none) = some ds := e
      split at h2
      · rename_i es e
        cases h2
        exact e
      · cases h2))
  | rol es => exact e
  | _ => simp [lstOf] at e
theorem lst_lt {g : GH} {i : Nat} {ds : List D} (e : lstOf g (.ref i) = some ds) : i < g.length := by
  have h2 : (match g[i]? with | some (.lst ds) => some ds | _ => none) = some ds := e
  split at h2
  · rename_i es e
    exact (List.getElem?_eq_some_iff.mp e).1
  · cases h2
/-- a value whose parts are data; no part of it is the flask r -/
def Vl (r : Nat) (g : GH) : Nat → D → Prop
  | 0, _ => False
  | n + 1, d => match d with
    | .tup ds => ds.length ≤ 1000 ∧ ∀ x ∈ ds, Vl r g n x
    | .str s => PyData.strOk s = true ∧ s.length ≤ 1000
    | .rol _ => False
    | .ref i => i ≠ r ∧ ∃ ds, g[i]? = some (.lst ds) ∧ ds.length ≤ 1000 ∧ ∀ x ∈ ds, Vl r g n x
    | _ => True
theorem Vl.kp {r : Nat} {g g' : GH} (K : Kp r g g') : ∀ (n : Nat) (d : D), Vl r g n d → Vl r g' n d
  | 0, _, h => h.elim
  | n + 1, d, h => by
    cases d with
    | tup ds =>
      obtain ⟨h1, h2⟩ := h
      exact ⟨h1, fun x hx => Vl.kp K n x (h2 x hx)⟩
    | ref i =>
      obtain ⟨h1, ds, h2, h3, h4⟩ := h
      exact ⟨h1, ds, K.2 _ _ h1 h2, h3, fun x hx => Vl.kp K n x (h4 x hx)⟩
    | _ => exact h
theorem Vl.app {r : Nat} {g g' : GH} (A : App g g') {n : Nat} {d : D} (h : Vl r g n d) : Vl r g' n d := Vl.kp (A.kp r) n d h
theorem Vl.up {r : Nat} {g : GH} : ∀ (n m : Nat) (d : D), n ≤ m → Vl r g n d → Vl r g m d
  | 0, _, _, _, h => h.elim
  | n + 1, 0, _, l, _ => by omega
  | n + 1, m + 1, d, l, h => by
    cases d with
    | tup ds =>
      obtain ⟨h1, h2⟩ := h
      exact ⟨h1, fun x hx => Vl.up n m x (by omega) (h2 x hx)⟩
    | ref i =>
      obtain ⟨h1, ds, h2, h3, h4⟩ := h
      exact ⟨h1, ds, h2, h3, fun x hx => Vl.up n m x (by omega) (h4 x hx)⟩
    | _ => exact h
theorem toPy_ref {g : GH} {n i : Nat} {ds : List D} (h : g[i]? = some (.lst ds)) : toPy g (n + 1) (.ref i) = (ds.mapM (toPy g n)).map .list := by
  unfold toPy
  simp only [h]
theorem toPy_tup {g : GH} {n : Nat} {ds : List D} : toPy g (n + 1) (.tup ds) = (ds.mapM (toPy g n)).map .tuple := rfl
theorem toPy_str {g : GH} {n : Nat} {s : Str} (h : PyData.strOk s = true) : toPy g (n + 1) (.str s) = some (.str s) := by
  unfold toPy
  simp only [h, if_true]
theorem toPy_int {g : GH} {n : Nat} {i : Int} : toPy g (n + 1) (.int i) = some (.int i) := rfl
theorem toPy_bl {g : GH} {n : Nat} {i : Bool} : toPy g (n + 1) (.bl i) = some (.bool i) := rfl
theorem toPy_non {g : GH} {n : Nat} : toPy g (n + 1) .non = some .none := rfl
theorem mapM_some {α β : Type} {f : α → Option β} : ∀ (xs : List α), (∀ x ∈ xs, ∃ p, f x = some p) → ∃ ps, xs.mapM f = some ps ∧ ps.length = xs.length
  | [], _ => ⟨[], by simp, rfl⟩
  | x :: xs, h => by
    obtain ⟨p, e⟩ := h x (by simp)
    obtain ⟨ps, e2, l⟩ := mapM_some xs fun y hy => h y (by simp [hy])
    refine ⟨p :: ps, ?_, by simp [l]⟩
    rw [List.mapM_cons, e, e2]
    rfl
theorem Vl.py {r : Nat} {g : GH} : ∀ (n k : Nat) (d : D), n ≤ k → Vl r g n d → ∃ p, toPy g k d = some p
  | 0, _, _, _, h => h.elim
  | n + 1, 0, _, l, _ => by omega
  | n + 1, k + 1, d, l, h => by
    cases d with
    | tup ds =>
      obtain ⟨ps, e, _⟩ := mapM_some (f := toPy g k) ds fun x hx => Vl.py n k x (by omega) (h.2 x hx)
      exact ⟨.tuple ps, by rw [toPy_tup, e]; rfl⟩
    | ref i =>
      obtain ⟨h1, ds, h2, h3, h4⟩ := h
      obtain ⟨ps, e, _⟩ := mapM_some (f := toPy g k) ds fun x hx => Vl.py n k x (by omega) (h4 x hx)
      exact ⟨.list ps, by rw [toPy_ref h2, e]; rfl⟩
    | str s => exact ⟨_, toPy_str h.1⟩
    | rol ds => exact h.elim
    | non => exact ⟨_, toPy_non⟩
    | bl b => exact ⟨_, toPy_bl⟩
    | int b => exact ⟨_, toPy_int⟩
theorem Vl.isB {r n : Nat} {g : GH} {d : D} (h : Vl r g n d) (t : BT) : isB t d g = some (match t, d with
    | .tint, .int _ => true | .tint, .bl _ => true | .tbool, .bl _ => true | .ttuple, .tup _ => true | .tlist, .ref _ => true | .tstr, .str _ => true | _, _ => false) := by
  cases n with
  | zero => exact h.elim
  | succ n =>
    cases d with
    | ref i =>
      obtain ⟨_, ds, e, _⟩ := h
      rw [isB_ref e]
      cases t <;> rfl
    | rol ds => exact h.elim
    | _ => cases t <;> rfl
theorem py_lst {g : GH} {i n : Nat} {ds : List D} (h : g[i]? = some (.lst ds)) (hv : ∀ x ∈ ds, ∃ p, toPy g n x = some p) : ∃ ps, toPy g (n + 1) (.ref i) = some (.list ps) ∧ ps.length = ds.length := by
  obtain ⟨ps, e, l⟩ := mapM_some (f := toPy g n) ds hv
  exact ⟨ps, by rw [toPy_ref h, e]; rfl, l⟩
theorem py_ints {g : GH} {n : Nat} : ∀ is : List Int, (is.map D.int).mapM (toPy g (n + 1)) = some (is.map PyData.int)
  | [] => rfl
  | i :: is => by
    rw [List.map_cons, List.mapM_cons, py_ints is]
    rfl
theorem eqv_ints : ∀ is js : List Int, PyData.eqvAll (is.map .int) (js.map .int) = decide (is = js)
  | [], [] => rfl
  | [], _ :: _ => rfl
  | _ :: _, [] => rfl
  | i :: is, j :: js => by
    simp only [List.map_cons, PyData.eqvAll, eqv_ints is js, PyData.eqv]
    by_cases h : i = j <;> simp [h]
theorem eqv_nil (ps : List PyData) : PyData.eqv (.list ps) (.list []) = ps.isEmpty := by
  cases ps <;> rfl
theorem eqv_nilT (ps : List PyData) : PyData.eqv (.tuple ps) (.tuple []) = ps.isEmpty := by
  cases ps <;> rfl
theorem isEmpty_len {α β : Type} {xs : List α} {ys : List β} (h : xs.length = ys.length) : xs.isEmpty = ys.isEmpty := by
  cases xs <;> cases ys <;> simp_all
section
variable {Q : D → GH → Prop} {g : GH} {i j : Nat} {ds : List D}
theorem ne_nil (h : g[i]? = some (.lst ds)) (h2 : g[j]? = some (.lst [])) (hv : ∀ x ∈ ds, ∃ p, toPy g 15 x = some p) : wpo (opNe (.ref i) (.ref j) g) Q = Q (.bl (!ds.isEmpty)) g := by
  obtain ⟨ps, e, l⟩ := py_lst h hv
  obtain ⟨qs, e2, l2⟩ := py_lst (n := 15) h2 (by simp)
  rw [ne_py e e2, List.length_eq_zero_iff.mp l2, eqv_nil, isEmpty_len l]
theorem eq_nil (h : g[i]? = some (.lst ds)) (h2 : g[j]? = some (.lst [])) (hv : ∀ x ∈ ds, ∃ p, toPy g 15 x = some p) : wpo (opEq (.ref i) (.ref j) g) Q = Q (.bl ds.isEmpty) g := by
  obtain ⟨ps, e, l⟩ := py_lst h hv
  obtain ⟨qs, e2, l2⟩ := py_lst (n := 15) h2 (by simp)
  rw [eq_py e e2, List.length_eq_zero_iff.mp l2, eqv_nil, isEmpty_len l]
theorem eq_ints {is js : List Int} (h : g[i]? = some (.lst (is.map D.int))) (h2 : g[j]? = some (.lst (js.map D.int))) : wpo (opEq (.ref i) (.ref j) g) Q = Q (.bl (decide (is = js))) g := by
  have e1 : toPy g 16 (.ref i) = some (.list (is.map .int)) := by rw [toPy_ref h, py_ints is]; rfl
  have e2 : toPy g 16 (.ref j) = some (.list (js.map .int)) := by rw [toPy_ref h2, py_ints js]; rfl
  rw [eq_py e1 e2, PyData.eqv, eqv_ints]
end
theorem ne_str {Q : D → GH → Prop} {g : GH} {a b : Str} (ha : PyData.strOk a = true) (hb : PyData.strOk b = true) : wpo (opNe (.str a) (.str b) g) Q = Q (.bl (!(a == b))) g := by
  rw [ne_py (toPy_str (n := 15) ha) (toPy_str (n := 15) hb)]
  rfl
theorem eq_str {Q : D → GH → Prop} {g : GH} {a b : Str} (ha : PyData.strOk a = true) (hb : PyData.strOk b = true) : wpo (opEq (.str a) (.str b) g) Q = Q (.bl (a == b)) g := by
  rw [eq_py (toPy_str (n := 15) ha) (toPy_str (n := 15) hb)]
  rfl
theorem py_bls {g : GH} {n : Nat} : ∀ is : List Bool, (is.map D.bl).mapM (toPy g (n + 1)) = some (is.map PyData.bool)
  | [] => rfl
  | i :: is => by
    rw [List.map_cons, List.mapM_cons, py_bls is]
    rfl
theorem eqv_bls : ∀ is js : List Bool, PyData.eqvAll (is.map .bool) (js.map .bool) = decide (is = js)
  | [], [] => rfl
  | [], _ :: _ => rfl
  | _ :: _, [] => rfl
  | i :: is, j :: js => by
    simp only [List.map_cons, PyData.eqvAll, eqv_bls is js, PyData.eqv]
    by_cases h : i = j <;> simp [h]
theorem ne_bls {Q : D → GH → Prop} {g : GH} {i j : Nat} {is js : List Bool} (h : g[i]? = some (.lst (is.map D.bl))) (h2 : g[j]? = some (.lst (js.map D.bl))) : wpo (opNe (.ref i) (.ref j) g) Q = Q (.bl (!decide (is = js))) g := by
  have e1 : toPy g 16 (.ref i) = some (.list (is.map .bool)) := by rw [toPy_ref h, py_bls is]; rfl
  have e2 : toPy g 16 (.ref j) = some (.list (js.map .bool)) := by rw [toPy_ref h2, py_bls js]; rfl
  rw [ne_py e1 e2, PyData.eqv, eqv_bls]
theorem ne_emptyT {Q : D → GH → Prop} {g : GH} {ds : List D} (hv : ∀ x ∈ ds, ∃ p, toPy g 15 x = some p) : wpo (opNe (.tup ds) (.tup []) g) Q = Q (.bl (!ds.isEmpty)) g := by
  obtain ⟨ps, e, l⟩ := mapM_some (f := toPy g 15) ds hv
  have e1 : toPy g 16 (.tup ds) = some (.tuple ps) := by rw [toPy_tup, e]; rfl
  have e2 : toPy g 16 (.tup []) = some (.tuple []) := rfl
  rw [ne_py e1 e2, eqv_nilT, isEmpty_len l]
theorem cut_mem {ds : List D} {lo hi : Option Int} {x : D} (h : x ∈ cutD ds lo hi) : x ∈ ds := List.mem_of_mem_drop (List.mem_of_mem_take h)
theorem cut_len (ds : List D) (lo hi : Option Int) : (cutD ds lo hi).length ≤ ds.length := by
  unfold cutD
  simp
  omega
theorem intsOf_map : ∀ is : List Int, intsOf (is.map D.int) = some is
  | [] => rfl
  | i :: is => by simp [intsOf, intsOf_map is]
theorem set_ints {Q : D → GH → Prop} {g : GH} {is : List Int} (h : is.length < 4000) : wpo (fSet [.tup (is.map D.int)] g) Q = Q (.ref g.length) (g ++ [.iset (canon is)]) := by
  simp only [fSet, intsOf_map]
  rw [if_pos h]
  rfl
theorem sorted_ref {Q : D → GH → Prop} {g : GH} {i : Nat} {ks : List Int} (h : g[i]? = some (.iset ks)) (hl : ks.length < 64) : wpo (fSorted [.ref i] g) Q = Q (.ref g.length) (g ++ [.lst (ks.map .int)]) := by
  simp only [fSorted, h]
  rw [if_pos hl]
  rfl
@[simp high] theorem get_app0 (g L : GH) : (g ++ L)[g.length]? = L[0]? := by
  rw [List.getElem?_append_right (Nat.le_refl _), Nat.sub_self]
@[simp high] theorem get_app1 (g L : GH) (k : Nat) : (g ++ L)[g.length + k]? = L[k]? := by
  rw [List.getElem?_append_right (by omega), Nat.add_sub_cancel_left]
@[simp high] theorem get_app2 (g L : GH) (k j : Nat) : (g ++ L)[g.length + k + j]? = L[k + j]? := by
  rw [Nat.add_assoc, get_app1]
/-! ### the same, by places -/
section
variable {Q : D → GH → Prop} {g : GH} {i j : Nat}
theorem add_refs : wpo (opAdd (.ref i) (.ref j) g) Q = ∃ a b, g[i]? = some (.lst a) ∧ g[j]? = some (.lst b) ∧ a.length + b.length ≤ 16777216 ∧ Q (.ref g.length) (g ++ [.lst (a ++ b)]) := by
  refine propext ⟨fun h => ?_, fun ⟨a, b, h1, h2, h⟩ => by rw [add_ref h1 h2]; exact h⟩
  have h2 : wpo (match g[i]?, g[j]? with
    | some (.lst a), some (.lst b) => if a.length + b.length ≤ 16777216 then some (.ref g.length, g ++ [.lst (a ++ b)]) else none
    | _, _ => none) Q := h
  split at h2
  · rename_i a b e1 e2
    rw [wpo_if] at h2
    exact ⟨a, b, e1, e2, h2⟩
  · exact h2.elim
theorem mul_refs {k : Int} : wpo (opMul (.ref i) (.int k) g) Q = ∃ a, g[i]? = some (.lst a) ∧ (0 ≤ k ∧ k ≤ 1000000 ∧ a.length * k.toNat ≤ 16777216) ∧ Q (.ref g.length) (g ++ [.lst (List.replicate k.toNat a).flatten]) := by
  refine propext ⟨fun h => ?_, fun ⟨a, h1, h⟩ => by rw [mul_ref h1]; exact h⟩
  have h2 : wpo (match g[i]? with
    | some (.lst a) => if 0 ≤ k ∧ k ≤ 1000000 ∧ a.length * k.toNat ≤ 16777216 then some (.ref g.length, g ++ [.lst (List.replicate k.toNat a).flatten]) else none
    | _ => none) Q := h
  split at h2
  · rename_i a e1
    rw [wpo_if] at h2
    exact ⟨a, e1, h2⟩
  · exact h2.elim
theorem ix_refs {k : Int} : wpo (opIx (.ref i) (.int k) g) Q = ∃ a x, g[i]? = some (.lst a) ∧ atI a k = some x ∧ Q x g := by
  refine propext ⟨fun h => ?_, fun ⟨a, x, h1, h2, h⟩ => by rw [ix_lst (lst_ref h1)]; exact ⟨x, h2, h⟩⟩
  have h2 : wpo (match g[i]? with
    | some (.lst ds) => (atI ds k).map fun x => (x, g)
    | _ => none) Q := h
  split at h2
  · rename_i a e1
    rw [wpo_map] at h2
    obtain ⟨x, h3, h4⟩ := h2
    exact ⟨a, x, e1, h3, h4⟩
  · exact h2.elim
theorem lstOf_some {d : D} {o : Option (D × GH)} {f : List D → D × GH} (e : o = (lstOf g d).map f) : wpo o Q = ∃ a, lstOf g d = some a ∧ Q (f a).1 (f a).2 := by
  rw [e, wpo_map]
theorem lstOf_ref (a : List D) : (lstOf g (.ref i) = some a) = (g[i]? = some (.lst a)) := propext ⟨lst_get, lst_ref⟩
theorem len_refs : wpo (fLen [.ref i] g) Q = ∃ a, g[i]? = some (.lst a) ∧ Q (.int a.length) g := by
  rw [lstOf_some (o := fLen [.ref i] g) (g := g) (d := .ref i) (f := fun ds => (.int ds.length, g)) rfl]
  simp only [lstOf_ref]
theorem tuple_refs : wpo (fTuple [.ref i] g) Q = ∃ a, g[i]? = some (.lst a) ∧ Q (.tup a) g := by
  rw [lstOf_some (o := fTuple [.ref i] g) (g := g) (d := .ref i) (f := fun ds => (.tup ds, g)) rfl]
  simp only [lstOf_ref]
theorem list_refs : wpo (fList [.ref i] g) Q = ∃ a, g[i]? = some (.lst a) ∧ Q (.ref g.length) (g ++ [.lst a]) := by
  rw [lstOf_some (o := fList [.ref i] g) (g := g) (d := .ref i) (f := fun ds => (.ref g.length, g ++ [.lst ds])) rfl]
  simp only [lstOf_ref]
end
/-- a comprehension that leaves the old objects -/
theorem comp_app {deps : Deps} {t : T3} {test : TV} {elt : EV} {ρ : Rho} {W : Exc → GH → Prop} {g0 : GH} (f : D → Option D) (items : List D) (hd : ∀ g, App g0 g → depsOk g deps = true)
    (hs : ∀ x ∈ items, ∀ g, App g0 g → ∃ ρ', t.set x ρ = some ρ' ∧ wp (test ρ' g) (fun b g1 => App g g1 ∧ (b = true → wp (elt ρ' g1) (fun y g2 => App g1 g2 ∧ f x = some y) F0) ∧ (b = false → f x = none)) F0)
    (QL : List D → GH → Prop) (hq : ∀ g, App g0 g → QL (items.filterMap f) g) : wp (compL deps t test elt ρ items g0) QL W := by
  refine wp_comp (fun xs ys g => App g0 g ∧ (∀ x ∈ xs, x ∈ items) ∧ ys ++ xs.filterMap f = items.filterMap f) (fun xs ys g h => hd g h.1) ?_ items [] g0 QL ⟨App.refl _, fun _ h => h, rfl⟩ ?_
  · rintro x xs ys g ⟨A, hm, e⟩
    obtain ⟨ρ', e1, h⟩ := hs x (hm x (by simp)) g A
    refine ⟨ρ', e1, h.imp (fun b g1 ⟨A1, h1, h2⟩ => ⟨fun hb => (h1 hb).imp (fun y g2 ⟨A2, e2⟩ => ⟨(A.trans A1).trans A2, fun z hz => hm z (by simp [hz]), ?_⟩) fun _ _ z => z, fun hb => ⟨A.trans A1, fun z hz => hm z (by simp [hz]), ?_⟩⟩) fun _ _ z => z⟩
    · rw [List.filterMap_cons_some e2] at e
      simpa using e
    · rw [List.filterMap_cons_none (h2 hb)] at e
      exact e
  · rintro ys g ⟨A, _, e⟩
    simp at e
    rw [e]
    exact hq g A
theorem deps_one {g : GH} {i : Nat} {ds : List D} (h : g[i]? = some (.lst ds)) : depsOk g [(i, ds)] = true := by
  simp [depsOk, h, D.sames_refl]
end L3

/-! L3n: dicts whose keys are tuples of any depth. -/
namespace L3
open PySem PySem.Spec PyProof.Rows L2

/-- what stands at a key -/
def lookK : List (D × D) → NestedKey → Option D
  | [], _ => none
  | (k, d) :: r, key => if nk k = some key then some d else lookK r key
def replK (key : NestedKey) (v : D) : List (D × D) → List (D × D)
  | [] => []
  | (k, d) :: r => (if nk k = some key then (k, v) else (k, d)) :: replK key v r
def putD (kvs : List (D × D)) (key : NestedKey) (kd v : D) : List (D × D) := if (lookK kvs key).isSome then replK key v kvs else kvs ++ [(kd, v)]
/-- a key that is a tuple -/
def keyD (d : D) : Option NestedKey := match d with
  | .tup ds => (nk (.tup ds)).bind fun key => if key.depth ≤ 8 then some key else none
  | _ => none
def dicOf (g : GH) : D → Option (List (D × D))
  | .ref i => match g[i]? with
    | some (.dct kvs) => some kvs
    | _ => none
  | _ => none
def opInD : F2 := fun d e g => match dicOf g e, keyD d with
  | some kvs, some key => some (.bl (lookK kvs key).isSome, g)
  | _, _ => none
def opNotInD : F2 := fun d e g => match dicOf g e, keyD d with
  | some kvs, some key => some (.bl (!(lookK kvs key).isSome), g)
  | _, _ => none
def opIxD : F2 := fun d e g => match dicOf g d, keyD e with
  | some kvs, some key => (lookK kvs key).map fun v => (v, g)
  | _, _ => none
def opSetD (d i e : D) (g : GH) : Option GH := match d with
  | .ref k => (dicOf g (.ref k)).bind fun kvs => (keyD i).bind fun key => if kvs.length < 16777216 then some (g.set k (.dct (putD kvs key i e))) else none
  | _ => none
def eDNew : EV := fun _ g => .ok (.ref g.length) (g ++ [.dct []])

section
variable {X : Cx} {pins : List (Addr × Obj)} {σ : L2.St} {H : Hp} {s : Shared} {m : List Addr} {T : List (Addr × Str)} {g : GH}
mutual
theorem nk_is (I : Inv X pins σ H s) : ∀ (d : D) (v : V) (key : NestedKey) (u : Value), DRep X.kw m H d v → nk d = some key → RelV v u → NestedIs s.heap key u
  | .non, v, key, u, r, h, rv => by
    simp [DRep] at r; subst r
    simp [nk] at h; subst h
    cases (show u = Value.none from rv)
    exact .none
  | .bl b, v, key, u, r, h, rv => by
    simp [DRep] at r; subst r
    simp [nk] at h; subst h
    cases (show u = Value.bool b from rv)
    exact .bool rfl
  | .int i, v, key, u, r, h, rv => by
    simp [DRep] at r; subst r
    simp [nk] at h; subst h
    obtain ⟨t, rfl⟩ := (show ∃ t, u = Value.int i t from rv)
    exact .int _ _
  | .str z, v, key, u, r, h, rv => by
    simp [DRep] at r; subst r
    simp [nk] at h; subst h
    obtain ⟨t, rfl⟩ := (show ∃ t, u = Value.str z t from rv)
    exact .text _ _
  | .tup ds, v, key, u, r, h, rv => by
    rw [DRep] at r
    obtain ⟨a, xs, rfl, h1, h2⟩ := r
    cases (show u = Value.ref a from rv)
    simp only [nk, Option.map_eq_some_iff] at h
    obtain ⟨ks, h3, rfl⟩ := h
    obtain ⟨its, rvs, ⟨o, ho, hc, n, hd⟩, _⟩ := I.tuple h1
    exact .tup ho hc hd (by simpa using nks_is I ds xs ks its h2 h3 rvs)
  | .rol ds, v, key, u, r, h, rv => by simp [nk] at h
  | .ref i, v, key, u, r, h, rv => by simp [nk] at h
theorem nks_is (I : Inv X pins σ H s) : ∀ (ds : List D) (xs : List V) (ks : List NestedKey) (us : List Value), DReps X.kw m H ds xs → nks ds = some ks → Vals xs us → NestedAll s.heap ks us
  | [], xs, ks, us, r, h, rv => by
    rw [DReps] at r; subst r
    simp [nks] at h; subst h
    cases rv
    exact .nil
  | d :: ds, xs, ks, us, r, h, rv => by
    rw [DReps] at r
    obtain ⟨v, vs, rfl, h1, h2⟩ := r
    simp only [nks, Option.bind_eq_some_iff, Option.map_eq_some_iff] at h
    obtain ⟨k, h3, ks', h4, rfl⟩ := h
    cases rv with
    | cons rv1 rv2 => exact .cons (nk_is I d v k _ h1 h3 rv1) (nks_is I ds vs ks' _ h2 h4 rv2)
end
theorem keyD_tup {d : D} {key : NestedKey} (h : keyD d = some key) : nk d = some key ∧ key.depth ≤ 8 ∧ ∃ ds, d = .tup ds := by
  cases d with
  | tup ds =>
    have h2 : (nk (.tup ds)).bind (fun key => if key.depth ≤ 8 then some key else none) = some key := h
    obtain ⟨k, e, h3⟩ := Option.bind_eq_some_iff.mp h2
    by_cases hd : k.depth ≤ 8
    · rw [if_pos hd] at h3
      cases h3
      exact ⟨e, hd, ds, rfl⟩
    · rw [if_neg hd] at h3
      cases h3
  | _ => cases h
theorem key_rep {d : D} {key : NestedKey} {v : V} {u : Value} (I : Inv X pins σ H s) (h : keyD d = some key) (r : DRep X.kw m H d v) (rv : RelV v u) : ∃ b, v = .ref b ∧ u = .ref b ∧ (nestedKind X.prog X.w).is s.heap key b := by
  obtain ⟨h1, h2, ds, rfl⟩ := keyD_tup h
  have h3 := nk_is I _ v key u r h1 rv
  rw [DRep] at r
  obtain ⟨a, xs, rfl, _⟩ := r
  cases (show u = Value.ref a from rv)
  exact ⟨a, rfl, rfl, h3, h2⟩
theorem pair_is (I : Inv X pins σ H s) : ∀ (kvs : List (D × D)) (xs : List (NestedKey × Addr × Value)), PairD X.kw m H kvs xs → ∀ x ∈ xs, (nestedKind X.prog X.w).is s.heap x.1 x.2.1
  | [], xs, h, x, hx => by
    have : xs = [] := h
    subst this
    cases hx
  | (k, d) :: kvs, xs, ⟨key, b, v, vv, r, e, h1, h2, h3, h4, h5, h6⟩, x, hx => by
    subst e
    rcases List.mem_cons.mp hx with rfl | hx
    · exact ⟨nk_is I k _ key _ h3 h1 rfl, h2⟩
    · exact pair_is I kvs r h6 x hx
theorem dic_full (I : Inv X pins σ H s) {a : Addr} {kvs : List (D × D)} {xs : List (NestedKey × Addr × Value)} (h : H a = some (DicO X.prog X.w a xs)) (p : PairD X.kw m H kvs xs) : s.heap.DictOfH (nestedKind X.prog X.w) a xs := by
  have z := I.hok a _ h
  obtain ⟨⟨o, es, ep, h1, h2, h3, h4, h5⟩, _, _⟩ := z
  exact ⟨o, es, ep, h1, h2, h3, h4, pair_is I kvs xs p, h5⟩
theorem pair_len {K : KW} : ∀ {kvs : List (D × D)} {xs : List (NestedKey × Addr × Value)}, PairD K m H kvs xs → xs.length = kvs.length
  | [], xs, h => by
    have : xs = [] := h
    subst this
    rfl
  | (k, d) :: kvs, xs, ⟨key, b, v, vv, r, e, h1, h2, h3, h4, h5, h6⟩ => by
    subst e
    simp [pair_len h6]
theorem pair_look {K : KW} {key : NestedKey} : ∀ {kvs : List (D × D)} {xs : List (NestedKey × Addr × Value)}, PairD K m H kvs xs →
    match lookK kvs key with
    | some d => ∃ b v vv, atKey xs key = some (b, v) ∧ RelV vv v ∧ DRep K m H d vv
    | none => atKey xs key = none
  | [], xs, h => by
    have : xs = [] := h
    subst this
    rfl
  | (k, d) :: kvs, xs, ⟨key', b, v, vv, r, e, h1, h2, h3, h4, h5, h6⟩ => by
    subst e
    by_cases hk : key' = key
    · subst hk
      simp only [lookK, h1, if_true]
      exact ⟨b, v, vv, by simp [atKey], h4, h5⟩
    · have : ¬ (nk k = some key) := by rw [h1]; simpa using hk
      simp only [lookK, this, if_false]
      have e2 : atKey ((key', b, v) :: r) key = atKey r key := by simp [atKey, hk]
      rw [e2]
      exact pair_look h6
theorem pair_repl {K : KW} {key : NestedKey} {d0 : D} {vv0 : V} {v0 : Value} (r0 : RelV vv0 v0) (q0 : DRep K m H d0 vv0) : ∀ {kvs : List (D × D)} {xs : List (NestedKey × Addr × Value)}, PairD K m H kvs xs → PairD K m H (replK key d0 kvs) (xs.map (putAt key v0))
  | [], xs, h => by
    have : xs = [] := h
    subst this
    rfl
  | (k, d) :: kvs, xs, ⟨key', b, v, vv, r, e, h1, h2, h3, h4, h5, h6⟩ => by
    subst e
    by_cases hk : key' = key
    · subst hk
      simp only [replK, h1, if_true, List.map_cons]
      exact ⟨key', b, v0, vv0, _, by simp [putAt], h1, h2, h3, r0, q0, pair_repl r0 q0 h6⟩
    · have : ¬ (nk k = some key) := by rw [h1]; simpa using hk
      simp only [replK, this, if_false, List.map_cons]
      exact ⟨key', b, v, vv, _, by simp [putAt, hk], h1, h2, h3, h4, h5, pair_repl r0 q0 h6⟩
theorem pair_app {K : KW} {key : NestedKey} {kd d0 : D} {b0 : Addr} {vv0 : V} {v0 : Value} (hk : nk kd = some key) (hd : key.depth ≤ 8) (rk : DRep K m H kd (.ref b0)) (r0 : RelV vv0 v0) (q0 : DRep K m H d0 vv0) :
    ∀ {kvs : List (D × D)} {xs : List (NestedKey × Addr × Value)}, PairD K m H kvs xs → PairD K m H (kvs ++ [(kd, d0)]) (xs ++ [(key, b0, v0)])
  | [], xs, h => by
    have : xs = [] := h
    subst this
    exact ⟨key, b0, v0, vv0, [], rfl, hk, hd, rk, r0, q0, rfl⟩
  | (k, d) :: kvs, xs, ⟨key', b, v, vv, r, e, h1, h2, h3, h4, h5, h6⟩ => by
    subst e
    exact ⟨key', b, v, vv, _, rfl, h1, h2, h3, h4, h5, pair_app hk hd rk r0 q0 h6⟩
theorem pair_put {K : KW} {key : NestedKey} {kd d0 : D} {b0 : Addr} {vv0 : V} {v0 : Value} (hk : nk kd = some key) (hd : key.depth ≤ 8) (rk : DRep K m H kd (.ref b0)) (r0 : RelV vv0 v0) (q0 : DRep K m H d0 vv0)
    {kvs : List (D × D)} {xs : List (NestedKey × Addr × Value)} (h : PairD K m H kvs xs) : PairD K m H (putD kvs key kd d0) (storedH xs key b0 v0) := by
  have l := pair_look (key := key) h
  unfold putD storedH
  cases e : lookK kvs key with
  | some d =>
    rw [e] at l
    obtain ⟨b, v, vv, e1, _⟩ := l
    simp only [e1, Option.isSome_some, if_true]
    exact pair_repl r0 q0 h
  | none =>
    rw [e] at l
    simp only at l
    simp only [l, Option.isSome_none, Bool.false_eq_true, if_false]
    exact pair_app hk hd rk r0 q0 h
theorem dic_at {K : KW} {d : D} {v : V} {kvs : List (D × D)} (s : S K T m g H) (hd : DRep K m H d v) (e : dicOf g d = some kvs) : ∃ i a xs, d = .ref i ∧ v = .ref a ∧ m[i]? = some a ∧ g[i]? = some (.dct kvs) ∧ H a = some (DicO K.P K.w a xs) ∧ PairD K m H kvs xs ∧ (xs.map (·.1)).Nodup ∧ (a == sysModules) = false ∧ kvs.length ≤ 16777216 := by
  cases d with
  | ref i =>
    have e2 : (match g[i]? with | some (.dct kvs) => some kvs | _ => none) = some kvs := e
    split at e2
    · rename_i kvs' e3
      cases e2
      rw [DRep] at hd
      obtain ⟨a, rfl, h1⟩ := hd
      obtain ⟨o, h2, h3⟩ := s.at h1
      rw [e3] at h2
      cases h2
      obtain ⟨xs, h4, h5, h6, h7, h8⟩ := h3
      exact ⟨i, a, xs, rfl, rfl, h1, e3, h4, h5, h6, h7, h8⟩
    · cases e2
  | _ => cases e
end
section
variable {X : Cx} {Z : Row} {W : WX} {pos : Pos}
theorem o_inD (hK : Z.K = X.kw) (hu : X.A.units + 65 < cLine) : OpR X (compareOp .In) (r2 Z opInD) := by
  obtain ⟨K, T, ec⟩ := Z
  obtain rfl : K = X.kw := hK
  intro pins st σ H x y v u Q I rx ry ⟨m, g, d, e, s, hd, he, h⟩
  unfold opInD at h
  split at h
  · rename_i kvs key e1 e2
    obtain ⟨i, a, xs, rfl, rfl, hm, hg, h4, h5, h6, h7, h8⟩ := dic_at s he e1
    cases (show u = Value.ref a from ry)
    obtain ⟨b, rfl, rfl, hb⟩ := key_rep I e2 hd rx
    refine wpAny_in_heap (show X.A.in1.units + 8 < cLine by show X.A.units + 1 + 8 < cLine; omega) hb h7 (dic_full I h4 h5) ?_
    have l := pair_look (key := key) h5
    have q : (atKey xs key).isSome = (lookK kvs key).isSome := by
      cases e3 : lookK kvs key with
      | some z => rw [e3] at l; obtain ⟨_, _, _, l, _⟩ := l; rw [l]; rfl
      | none => rw [e3] at l; simp only at l; rw [l]; rfl
    rw [q]
    exact ⟨.bl _, H, I.tok _, rfl, h.here s D.mk_bl⟩
  · exact h.elim
theorem o_notInD (hK : Z.K = X.kw) (hu : X.A.units + 65 < cLine) : OpR X (compareOp .NotIn) (r2 Z opNotInD) := by
  obtain ⟨K, T, ec⟩ := Z
  obtain rfl : K = X.kw := hK
  intro pins st σ H x y v u Q I rx ry ⟨m, g, d, e, s, hd, he, h⟩
  unfold opNotInD at h
  split at h
  · rename_i kvs key e1 e2
    obtain ⟨i, a, xs, rfl, rfl, hm, hg, h4, h5, h6, h7, h8⟩ := dic_at s he e1
    cases (show u = Value.ref a from ry)
    obtain ⟨b, rfl, rfl, hb⟩ := key_rep I e2 hd rx
    refine wpAny_notIn_heap (show X.A.in1.units + 8 < cLine by show X.A.units + 1 + 8 < cLine; omega) hb h7 (dic_full I h4 h5) ?_
    have l := pair_look (key := key) h5
    have q : (atKey xs key).isSome = (lookK kvs key).isSome := by
      cases e3 : lookK kvs key with
      | some z => rw [e3] at l; obtain ⟨_, _, _, l, _⟩ := l; rw [l]; rfl
      | none => rw [e3] at l; simp only at l; rw [l]; rfl
    rw [q]
    exact ⟨.bl _, H, I.tok _, rfl, h.here s D.mk_bl⟩
  · exact h.elim
theorem o_ixD (hK : Z.K = X.kw) (hu : X.A.units + 65 < cLine) : IxR X (r2 Z opIxD) := by
  obtain ⟨K, T, ec⟩ := Z
  obtain rfl : K = X.kw := hK
  intro value slice pins st σ H x y v u Q I rx ry ⟨m, g, d, e, s, hd, he, h⟩ hs
  unfold opIxD at h
  split at h
  · rename_i kvs key e1 e2
    obtain ⟨i, a, xs, rfl, rfl, hm, hg, h4, h5, h6, h7, h8⟩ := dic_at s hd e1
    cases (show v = Value.ref a from rx)
    obtain ⟨b, rfl, rfl, hb⟩ := key_rep I e2 he ry
    have l := pair_look (key := key) h5
    cases e3 : lookK kvs key with
    | none => rw [e3] at h; exact h.elim
    | some z =>
      rw [e3] at l h
      obtain ⟨b2, w, vv, l1, l2, l3⟩ := l
      have hm2 := dic_full I h4 h5
      exact tail_any hm2.typeIs slot_dict_getitem.lookup (wpAny_getItem_heap (show X.A.in1.units + 8 < cLine by show X.A.units + 1 + 8 < cLine; omega) hb hm2 l1 ⟨vv, H, I.tok _, l2, Post.here (d := z) h s l3⟩) hs
  · exact h.elim
theorem set_3D (hK : Z.K = X.kw) (hu : X.A.units + 65 < cLine) : PSet X (rSet3 Z opSetD) := by
  obtain ⟨K, T, ec⟩ := Z
  obtain rfl : K = X.kw := hK
  intro pins st σ H o i v ov iv u Q I ro ri rv ⟨m, g, d, j, x, s, hd, hj, hx, h⟩
  unfold opSetD at h
  split at h
  · rename_i g' e0
    split at e0
    · rename_i k
      obtain ⟨kvs, e1, e0⟩ := Option.bind_eq_some_iff.mp e0
      obtain ⟨key, e2, e0⟩ := Option.bind_eq_some_iff.mp e0
      split at e0
      · rename_i hl
        cases e0
        obtain ⟨i2, a, xs, hi2, rfl, hm, hg, h4, h5, h6, h7, h8⟩ := dic_at s hd e1
        cases hi2
        cases (show ov = Value.ref a from ro)
        obtain ⟨k1, k2, ds, rfl⟩ := keyD_tup e2
        obtain ⟨b, rfl, rfl, hb⟩ := key_rep I e2 hj ri
        have hz : xs.length ≤ sizeLine := by
          rw [pair_len h5]
          exact h8
        refine wpAny_setItem_heap (hsz := hz) (show X.A.in1.units + 8 < cLine by show X.A.units + 1 + 8 < cLine; omega) hb (dic_full I h4 h5) fun h' dd hs => ?_
        obtain ⟨q, es, ep, d1, d2, d3, d4, d5, d6⟩ := dd
        have mw : Mine (DicO X.prog X.w a xs) := fun c q' => dicO_code X.prog X.w a h6 c q'
        have ex := s.putE (u := DicO X.prog X.w a (storedH xs key b u)) hm h4 mw (by unfold DicO; intro _ z; cases z)
        have hp : PairD X.kw m (upd H a (DicO X.prog X.w a (storedH xs key b u))) (putD kvs key (.tup ds) x) (storedH xs key b u) := PairD.mono0 (DRep.mono ex) _ _ (pair_put k1 k2 hj rv hx h5)
        have hlen : (putD kvs key (.tup ds) x).length ≤ 16777216 := by
          unfold putD
          split
          · have : ∀ l : List (D × D), (replK key x l).length = l.length := fun l => by
              induction l with
              | nil => rfl
              | cons p r ih => obtain ⟨p1, p2⟩ := p; simp [replK, ih]
            rw [this]; exact h8
          · simp; omega
        obtain ⟨e6, s6⟩ := s.put (o := .dct (putD kvs key (.tup ds) x)) (u := DicO X.prog X.w a (storedH xs key b u)) hm h4 mw ⟨_, upd_same, hp, d6, h7, hlen⟩ (by unfold DicO; intro _ z; cases z)
        refine ⟨_, d_write (ob := DicO X.prog X.w a (storedH xs key b u)) I (by rw [h4]; exact True.intro) hs ⟨q, d1⟩ ?_, h m _ e6 s6⟩
        refine ⟨⟨q, es, ep, d1, d2, d3, d4, d6⟩, ⟨q, d1⟩, fun h1 h2 ⟨o', es', ep', y1, y2⟩ keep => ⟨o', es', ep', keep _ y1, y2⟩⟩
      · cases e0
    · cases e0
  · exact h.elim
theorem pe3_dnew : PE X (.Dict [] [] pos) (tE Z eDNew W) := ⟨fun pins st σ H Q I ⟨m, g, ρ, s, r, h⟩ => by
  obtain ⟨K, T, ec⟩ := Z
  have hn := I.hok.fresh (Nat.le_refl st.heap.objs.size)
  have hsm : (st.heap.objs.size == sysModules) = false := beq_eq_false_iff_ne.mpr (Ne.symm (Nat.ne_of_lt I.big))
  obtain ⟨e, s2⟩ := s.new (u := DicO K.P K.w st.heap.objs.size []) (o := .dct []) hn ⟨[], upd_same, rfl, List.nodup_nil, hsm, by decide⟩
  have ok : ObjOk X.prog X.w (upd H st.heap.objs.size (DicO K.P K.w st.heap.objs.size [])) (st.heap.push { cls := .type "dict", data := .dict #[] }) st.heap.objs.size (DicO K.P K.w st.heap.objs.size []) :=
    ⟨⟨_, #[], 0, Heap.get?_push_size _ rfl, ⟨rfl, rfl, rfl⟩, rfl, rfl, List.nodup_nil⟩, ⟨_, Heap.get?_push_size _ rfl⟩, fun h1 h2 ⟨o', es', ep', y1, y2⟩ keep => ⟨o', es', ep', keep _ y1, y2⟩⟩
  refine wpAny_Dict_empty ⟨.ref st.heap.objs.size, _, I.laid (a := st.heap.objs.size) (o := DicO K.P K.w st.heap.objs.size []) (t' := st.toks) (fun _ _ q => Heap.get?_push_of_some _ q) (Nat.le_refl _) ok, rfl, ?_⟩
  refine h _ _ _ e s2 ?_
  show DRep _ _ _ (.ref g.length) _
  rw [DRep]
  exact ⟨_, rfl, by rw [← s.len]; simp⟩⟩
end
section
variable {Q : D → GH → Prop} {g : GH} {i : Nat} {kvs : List (D × D)} {d : D} {key : NestedKey}
theorem dicOf_ref (h : g[i]? = some (.dct kvs)) : dicOf g (.ref i) = some kvs := by
  show (match g[i]? with | some (.dct kvs) => some kvs | _ => none) = some kvs
  rw [h]
theorem in_dic (h : g[i]? = some (.dct kvs)) (hk : keyD d = some key) : wpo (opInD d (.ref i) g) Q = Q (.bl (lookK kvs key).isSome) g := by
  simp only [opInD, dicOf_ref h, hk, wpo_some]
theorem notIn_dic (h : g[i]? = some (.dct kvs)) (hk : keyD d = some key) : wpo (opNotInD d (.ref i) g) Q = Q (.bl (!(lookK kvs key).isSome)) g := by
  simp only [opNotInD, dicOf_ref h, hk, wpo_some]
theorem ix_dic (h : g[i]? = some (.dct kvs)) (hk : keyD d = some key) : wpo (opIxD (.ref i) d g) Q = ∃ v, lookK kvs key = some v ∧ Q v g := by
  simp only [opIxD, dicOf_ref h, hk]
  rw [wpo_map]
theorem set_dic {e : D} (h : g[i]? = some (.dct kvs)) (hk : keyD d = some key) (hl : kvs.length < 16777216) : opSetD (.ref i) d e g = some (g.set i (.dct (putD kvs key d e))) := by
  simp only [opSetD, dicOf_ref h, hk, Option.bind_some, hl, if_true]
@[simp] theorem wp_eDNew {W : Exc → GH → Prop} {ρ : Rho} : wp (eDNew ρ g) Q W = Q (.ref g.length) (g ++ [.dct []]) := rfl
theorem look_repl (key k : NestedKey) (v : D) : ∀ kvs : List (D × D), lookK (replK key v kvs) k = if k = key then (if (lookK kvs key).isSome then some v else none) else lookK kvs k
  | [] => by simp [replK, lookK]
  | (k', d) :: r => by
    have ih := look_repl key k v r
    by_cases h1 : nk k' = some key
    · by_cases h2 : k = key
      · subst h2
        simp [replK, lookK, h1]
      · have h3 : ¬ (key = k) := fun z => h2 z.symm
        simp [replK, lookK, h1, h2, h3, ih]
    · by_cases h2 : k = key
      · subst h2
        simp [replK, lookK, h1, ih]
      · simp [replK, lookK, h1, h2, ih]
theorem look_app (key k : NestedKey) (kd v : D) (hk : nk kd = some key) : ∀ kvs : List (D × D), lookK kvs key = none → lookK (kvs ++ [(kd, v)]) k = if k = key then some v else lookK kvs k
  | [], _ => by
    by_cases h2 : k = key
    · subst h2; simp [lookK, hk]
    · have h3 : ¬ (key = k) := fun z => h2 z.symm
      simp [lookK, hk, h2, h3]
  | (k', d) :: r, h => by
    have hne : ¬ (nk k' = some key) := fun z => by simp [lookK, z] at h
    have ih := look_app key k kd v hk r (by simpa [lookK, hne] using h)
    by_cases h2 : k = key
    · subst h2; simp [lookK, hne, ih]
    · by_cases h4 : nk k' = some k
      · simp [lookK, h4, h2]
      · simp [lookK, h4, h2, ih]
/-- what stands behind a store -/
theorem look_put {k : NestedKey} {kd v : D} (hk : nk kd = some key) : lookK (putD kvs key kd v) k = if k = key then some v else lookK kvs k := by
  unfold putD
  split
  · rename_i h
    rw [look_repl, h]
    simp
  · rename_i h
    exact look_app key k kd v hk kvs (by simpa using h)
theorem put_len {kd v : D} : (putD kvs key kd v).length ≤ kvs.length + 1 := by
  have : ∀ l : List (D × D), (replK key v l).length = l.length := fun l => by
    induction l with
    | nil => rfl
    | cons p r ih => obtain ⟨p1, p2⟩ := p; simp [replK, ih]
  unfold putD
  split
  · rw [this]; omega
  · simp
end
@[simp] theorem int_bl {Q : D → GH → Prop} {g : GH} (b : Bool) : wpo (fInt [.bl b] g) Q = Q (.int (if b = true then 1 else 0)) g := rfl
@[simp] theorem ne_bl {Q : D → GH → Prop} {g : GH} (a b : Bool) : wpo (opNe (.bl a) (.bl b) g) Q = Q (.bl (!(a == b))) g := by
  have e : PyData.eqv (.bool a) (.bool b) = (a == b) := by rw [PyData.eqv]
  simp [opNe, toPy, e]
@[simp] theorem eq_bl {Q : D → GH → Prop} {g : GH} (a b : Bool) : wpo (opEq (.bl a) (.bl b) g) Q = Q (.bl (a == b)) g := by
  have e : PyData.eqv (.bool a) (.bool b) = (a == b) := by rw [PyData.eqv]
  simp [opEq, toPy, e]
theorem eq_bls {Q : D → GH → Prop} {g : GH} {i j : Nat} {is js : List Bool} (h : g[i]? = some (.lst (is.map D.bl))) (h2 : g[j]? = some (.lst (js.map D.bl))) : wpo (opEq (.ref i) (.ref j) g) Q = Q (.bl (decide (is = js))) g := by
  have e1 : toPy g 16 (.ref i) = some (.list (is.map .bool)) := by rw [toPy_ref h, py_bls is]; rfl
  have e2 : toPy g 16 (.ref j) = some (.list (js.map .bool)) := by rw [toPy_ref h2, py_bls js]; rfl
  rw [eq_py e1 e2, PyData.eqv, eqv_bls]
/-- all old objects stay -/
def Ex (g g' : GH) : Prop := g.length ≤ g'.length ∧ ∀ (i : Nat) o, g[i]? = some o → g'[i]? = some o
theorem App.ex {g g' : GH} (h : App g g') : Ex g g' := ⟨h.len, fun _ _ e => h.get e⟩
theorem Ex.trans {a b c : GH} (h : Ex a b) (h' : Ex b c) : Ex a c := ⟨Nat.le_trans h.1 h'.1, fun i o e => h'.2 i o (h.2 i o e)⟩
theorem Ex.refl (g : GH) : Ex g g := ⟨Nat.le_refl _, fun _ _ e => e⟩
theorem Ex.kp {g g' : GH} (h : Ex g g') (r : Nat) : Kp r g g' := ⟨h.1, fun i o _ e => h.2 i o e⟩
theorem Ex.fk {g g' : GH} (h : Ex g g') {r : Nat} (F : Fk r g) : Fk r g' := by
  obtain ⟨x, y, e, z⟩ := F
  exact ⟨x, y, h.2 _ _ e, z⟩
theorem Kp.new {g g' : GH} {o : GO} (h : Kp g.length (g ++ [o]) g') : Ex g g' := by
  refine ⟨?_, fun i u e => ?_⟩
  · have := h.1
    simp at this
    omega
  · have hi := (List.getElem?_eq_some_iff.mp e).1
    exact h.2 i u (by omega) ((App.one g o).get e)
/-! ### walks of ranges -/
theorem rangeD_nil {a b : Int} (h : b ≤ a) : rangeD a b = [] := by
  have : (b - a).toNat = 0 := by omega
  simp [rangeD, this]
theorem rangeD_cons {a b : Int} (h : a < b) : rangeD a b = .int a :: rangeD (a + 1) b := by
  obtain ⟨n, hn⟩ : ∃ n, (b - a).toNat = n + 1 := ⟨(b - a).toNat - 1, by omega⟩
  have h2 : (b - (a + 1)).toNat = n := by omega
  simp only [rangeD, hn, h2, List.range_succ_eq_map, List.map_cons, List.map_map]
  congr 1
  · simp
  · apply List.map_congr_left
    intro k _
    simp [Function.comp_def]
    omega
theorem rangeD_len (a b : Int) : (rangeD a b).length = (b - a).toNat := by simp [rangeD]
theorem wps_rg {b : Int} {step : D → SV} {k : Kt} (I : Int → Rho → GH → Prop) (hn : ∀ ρ g, I b ρ g → k.nx ρ g) : ∀ (n : Nat) (a : Int), b = a + n →
    (∀ i ρ g, a ≤ i → i < b → I i ρ g → wps (step (.int i) ρ g) { k with nx := I (i + 1), ct := I (i + 1), bk := k.nx }) → ∀ (ρ : Rho) (g : GH), I a ρ g → wps (forL [] step (rangeD a b) ρ g) k
  | 0, a, e, hs, ρ, g, h => by
    rw [rangeD_nil (by omega)]
    have : a = b := by omega
    subst this
    exact hn ρ g h
  | n + 1, a, e, hs, ρ, g, h => by
    rw [rangeD_cons (by omega)]
    have h1 := hs a ρ g (by omega) (by omega) h
    have ih := wps_rg I hn n (a + 1) (by omega) fun i ρ g h1 h2 => hs i ρ g (by omega) h2
    show wps (match step (.int a) ρ g with
      | .nx ρ' g' => forL [] step (rangeD (a + 1) b) ρ' g'
      | .ct ρ' g' => forL [] step (rangeD (a + 1) b) ρ' g'
      | .bk ρ' g' => .nx ρ' g'
      | o => o) k
    cases e : step (.int a) ρ g with
    | nx ρ' g' => rw [e] at h1; exact ih ρ' g' h1
    | ct ρ' g' => rw [e] at h1; exact ih ρ' g' h1
    | bk ρ' g' => rw [e] at h1; exact h1
    | rt d g' => rw [e] at h1; exact h1
    | er x ρ' g' => rw [e] at h1; exact h1
    | bad => rw [e] at h1; exact h1
theorem wps_rng {a b : Int} {step : D → SV} {k : Kt} (I : Int → Rho → GH → Prop) (hab : a ≤ b) (hs : ∀ i ρ g, a ≤ i → i < b → I i ρ g → wps (step (.int i) ρ g) { k with nx := I (i + 1), ct := I (i + 1), bk := k.nx })
    (hn : ∀ ρ g, I b ρ g → k.nx ρ g) (ρ : Rho) (g : GH) (h : I a ρ g) : wps (forL [] step (rangeD a b) ρ g) k := wps_rg I hn (b - a).toNat a (by omega) hs ρ g h
end L3

/-! L3o: enumerate over lists. -/
namespace L3
open PySem PySem.Spec PyProof.Rows L2

def enumD (k : Nat) : List D → List D
  | [] => []
  | d :: ds => .tup [.int (k : Nat), d] :: enumD (k + 1) ds
theorem enumD_len : ∀ (k : Nat) (ds : List D), (enumD k ds).length = ds.length
  | _, [] => rfl
  | k, d :: ds => by simp [enumD, enumD_len (k + 1) ds]
theorem enumD_get : ∀ (k i : Nat) (ds : List D) (d : D), ds[i]? = some d → (enumD k ds)[i]? = some (.tup [.int ((k + i : Nat) : Int), d])
  | _, _, [], _, h => by simp at h
  | k, 0, x :: ds, d, h => by
    simp at h
    subst h
    rfl
  | k, i + 1, x :: ds, d, h => by
    have := enumD_get (k + 1) i ds d (by simpa using h)
    simp only [enumD, List.getElem?_cons_succ]
    rw [this]
    congr 4
    omega
def iEnumL (a : EV) : IV := fun ρ g => (a ρ g).bind fun d g1 => match d with
  | .ref i => match g1[i]? with
    | some (.lst ds) => .ok ⟨[(i, ds)], enumD 0 ds⟩ g1
    | _ => .bad
  | _ => .bad
section
variable {X : Cx} {Z : Row} {W : WX} {pos : Pos} {tg a b : Expr} {ea eb : EV}
theorem jrep_enum {K : KW} {T : List (Addr × Str)} {m0 : List Addr} {H0 : Hp} {i0 : Nat} {a0 : Addr} {ds : List D} (h0 : m0[i0]? = some a0) : JRep K T m0 H0 ⟨[(i0, ds)], enumD 0 ds⟩ (Ite K.K a0) := by
  intro i m g H e s hd
  have h1 := depsOk_mem hd List.mem_cons_self
  obtain ⟨o, h2, xs, h3, h4⟩ : ∃ o, g[i0]? = some o ∧ ∃ xs, H a0 = some (.lst xs) ∧ DReps K m H ds xs := by
    obtain ⟨o, h2, h3⟩ := s.at (e.get h0)
    rw [h1] at h2; cases h2
    exact ⟨_, h1, h3⟩
  refine ⟨fun hi => ⟨xs, SqL.of h3, by rw [hi]; show xs.length ≤ (enumD 0 ds).length; rw [enumD_len, h4.length]; exact Nat.le_refl _⟩, fun hi => ?_⟩
  have hi' : i < ds.length := by
    have : i < (enumD 0 ds).length := hi
    rw [enumD_len] at this
    exact this
  refine ⟨⟨xs, xs[i]'(by rw [← h4.length]; exact hi'), SqL.of h3, by simp⟩, fun x H' y => ?_⟩
  obtain ⟨T0, w, rfl, hT, rfl, y⟩ := y
  obtain ⟨d, h5, h6⟩ := h4.get' (y xs (SqL.of h3))
  obtain ⟨e2, s2⟩ := s.laid (u := .tup [.int (i : Nat), w]) hT
  refine ⟨.tup [.int (i : Nat), d], ?_, e2, s2, ?_⟩
  · have := enumD_get 0 i ds d h5
    rw [Nat.zero_add] at this
    exact this
  · rw [DRep]
    refine ⟨T0, [.int (i : Nat), w], rfl, .inl (.inl upd_same), ?_⟩
    rw [DReps]
    refine ⟨_, _, rfl, D.mk_int, ?_⟩
    rw [DReps]
    exact ⟨_, _, rfl, h6.mono e2, by rw [DReps]⟩
theorem pi3_enum {e : Expr} {p : Pos} {elts : List Expr} {kk : Nat} {tpos : Pos} (hK : Z.K = X.kw) (hg : Gl X "enumerate") (hm : X.mg "enumerate" = none) (ha : PE X e (tE Z ea W)) (hs : starEach [e] X.env = [(false, eval e X.env)] := by rfl) :
    PI X (.Tuple elts kk tpos) (.Call (.Name "enumerate" p) [e] [] pos) (tI3 Z (iEnumL ea) W) := by
  obtain ⟨K, T, ec⟩ := Z
  obtain rfl : K = X.kw := hK
  refine PI.imp (pi_enum hg hm (pa3_cons (hx := hs) ha pa3_nil) hs) fun σ H R ⟨m, g, ρ, s, r, h⟩ => ⟨m, g, ρ, s, r, ?_⟩
  unfold iEnumL at h
  unfold aCons aNil
  cases e1 : ea ρ g with
  | bad => rw [e1] at h; exact h.elim
  | er x g1 => rw [e1] at h; exact h
  | ok d g1 =>
    rw [e1] at h
    simp only [Res.bind_ok] at h ⊢
    split at h
    · rename_i i
      split at h
      · rename_i ds e2
        intro m1 H1 vs x1 s1 r1
        obtain ⟨v, rfl, r2⟩ := reps1 r1
        have r3 := r2
        rw [DRep] at r3
        obtain ⟨a0, rfl, h0⟩ := r3
        obtain ⟨o, h2, h3⟩ := s1.at h0
        rw [e2] at h2; cases h2
        obtain ⟨xs, h4, h5⟩ := h3
        exact ⟨a0, xs, rfl, SqL.of h4, h m1 H1 (Ite X.K a0) x1 s1 (jrep_enum h0)⟩
      · exact h.elim
    · exact h.elim
end
section
variable {Q : Src → GH → Prop} {W : Exc → GH → Prop} {ρ : Rho} {g : GH}
@[simp] theorem wp_iEnumL (a : EV) : wp (iEnumL a ρ g) Q W = wp (a ρ g) (fun d g1 => ∃ i ds, d = .ref i ∧ g1[i]? = some (.lst ds) ∧ Q ⟨[(i, ds)], enumD 0 ds⟩ g1) W := by
  simp only [iEnumL, wp_bind]
  congr 1
  funext d g1
  cases d with
  | ref i =>
    cases e : g1[i]? with
    | none => simp [e]
    | some o => cases o <;> simp [e]
  | _ => simp
end
/-! ### a tuple of texts and ints that the module binds -/
def vOf : D → V
  | .str s => .str s
  | .int i => .int i
  | _ => .non
def oneB (v : Value) (d : D) : Bool := match d with
  | .str z => (match v with
    | .str y _ => decide (y = z)
    | _ => false)
  | .int i => (match v with
    | .int j _ => decide (j = i)
    | _ => false)
  | _ => false
def itemsB : List Value → List D → Bool
  | [], [] => true
  | v :: r, d :: ds => oneB v d && itemsB r ds
  | _, _ => false
def tupS (K : PySem.W.Frag) (a : Addr) (ds : List D) : Bool := match K.lookup a with
  | some o => (match o.cls with
    | .type c => decide (c = "tuple")
    | _ => false) && (match o.data with
    | .seq its _ => decide (its.size ≤ 64) && itemsB its.toList ds
    | _ => false)
  | none => false
theorem oneB_rel {v : Value} {d : D} (h : oneB v d = true) : RelV (vOf d) v ∧ ∀ (K : KW) (m : List Addr) (H : Hp), DRep K m H d (vOf d) := by
  cases d with
  | str z =>
    cases v with
    | str y t =>
      simp [oneB] at h
      subst h
      exact ⟨⟨t, rfl⟩, fun _ _ _ => D.mk_str⟩
    | _ => cases h
  | int i =>
    cases v with
    | int j t =>
      simp [oneB] at h
      subst h
      exact ⟨⟨t, rfl⟩, fun _ _ _ => D.mk_int⟩
    | _ => cases h
  | _ => cases h
theorem itemsB_vals : ∀ (vs : List Value) (ds : List D), itemsB vs ds = true → Vals (ds.map vOf) vs ∧ ∀ (K : KW) (m : List Addr) (H : Hp), DReps K m H ds (ds.map vOf)
  | [], [], _ => ⟨.nil, fun _ _ _ => by show DReps _ _ _ [] []; rw [DReps]⟩
  | [], _ :: _, h => by cases h
  | _ :: _, [], h => by cases h
  | v :: r, d :: ds, h => by
    simp only [itemsB, Bool.and_eq_true] at h
    obtain ⟨h1, h2⟩ := h
    obtain ⟨a, b⟩ := oneB_rel h1
    obtain ⟨a2, b2⟩ := itemsB_vals r ds h2
    refine ⟨.cons a a2, fun K m H => ?_⟩
    show DReps _ _ _ (d :: ds) (vOf d :: ds.map vOf)
    rw [DReps]
    exact ⟨_, _, rfl, b K m H, b2 K m H⟩
theorem tupS_sq {K : PySem.W.Frag} {H : Hp} {a : Addr} {ds : List D} (h : tupS K a ds = true) : SqT K H a (ds.map vOf) ∧ ∀ (K : KW) (m : List Addr) (H : Hp), DReps K m H ds (ds.map vOf) := by
  unfold tupS at h
  split at h
  · rename_i o e
    simp only [Bool.and_eq_true] at h
    obtain ⟨h1, h2⟩ := h
    split at h1
    · rename_i c e1
      simp at h1
      subst h1
      split at h2
      · rename_i its n e2
        simp only [Bool.and_eq_true, decide_eq_true_eq] at h2
        obtain ⟨a1, a2⟩ := itemsB_vals _ _ h2.2
        refine ⟨.inr ⟨o, its, n, e, e1, e2, ?_, a1⟩, a2⟩
        have : (64 : Nat) ≤ sizeLine := by decide
        omega
      · cases h2
    · cases h1
  · cases h
theorem pe3_globT {X : Cx} {Z : Row} {W : WX} {pos : Pos} {x : Str} {a : Addr} {ds : List D} (hK : Z.K.K = X.K) (hg : Gl X x) (hm : X.mg x = some (.ref a)) (ht : tupS X.K a ds = true) (hd : (x == ("__debug__" : Str)) = false := by decide) : PE X (.Name x pos) (tE Z (eC (.tup ds)) W) :=
  pe3_glob (v := .ref a) hg hm rfl (fun m H => by
    rw [DRep]
    obtain ⟨h1, h2⟩ := tupS_sq (H := H) ht
    exact ⟨a, _, rfl, by rw [hK]; exact h1, h2 _ _ _⟩) hd
end L3

/-! The bodies of law 07 in the language, printed by gen.py. -/
namespace L3
open PySem L2
inductive F where
  | is_int
  | rules_so
  | need_rule
  | need_number
  | served
  | is_caught
  | stops_of
  | caught_so
  | need_all
  | caught
  | most_hurts
  | least_bench
  | hurts_least
  | mends
  | law_flask_of
  | law_sip
  | law_some
  | law_code
  | law_lost
  | law_mended
  | law_refused
  | law
abbrev Phi := F → List D → GH → Res D
def b_is_int (Φ : Phi) : SV := (sRet (eAnd (eIsB .tint (eVar 0)) (eAnd (eNot (eIsB .tbool (eVar 0))) (eChain opLe opLe (eVar 1) (eVar 0) (eVar 2)))))
def b_rules_so (Φ : Phi) : SV := (sSeq (sIf (tOr3 (tNot3 (tB3 (eIsB .ttuple (eVar 0)))) (tB3 (eBin opNe (eBi fLen (aCons (eVar 0) aNil)) (eC (.int 4))))) (sRet (eC (.bl false))) sNil)
  (sSeq (sIf (tOr3 (tNot3 (tB3 (eCall (Φ .is_int) (aCons (eBin opIx (eVar 0) (eC (.int 0))) (aCons (eC (.int 0)) (aCons (eC (.int 5)) aNil)))))) (tNot3 (tB3 (eCall (Φ .is_int) (aCons (eBin opIx (eVar 0) (eC (.int 1))) (aCons (eC (.int 0)) (aCons (eC (.int 4)) aNil))))))) (sRet (eC (.bl false))) sNil)
  (sSeq (sIf (tOr3 (tNot3 (tB3 (eIsB .ttuple (eBin opIx (eVar 0) (eC (.int 2)))))) (tOr3 (tB3 (eBin opGt (eBi fLen (aCons (eBin opIx (eVar 0) (eC (.int 2))) aNil)) (eC (.int 2)))) (tNot3 (tB3 (eCall (Φ .is_int) (aCons (eBin opIx (eVar 0) (eC (.int 3))) (aCons (eC (.int 0)) (aCons (eC (.int 2)) aNil)))))))) (sRet (eC (.bl false))) sNil)
  (sSeq (sIf (tB3 (eBin opNe (eComp (iSeq (eBin opIx (eVar 0) (eC (.int 2)))) (.one 1) (tNot3 (tB3 (eCall (Φ .is_int) (aCons (eVar 1) (aCons (eC (.int 1)) (aCons (eC (.int 12)) aNil)))))) (eVar 1) [1]) (eLst aNil))) (sRet (eC (.bl false))) sNil)
  (sRet (eBin opEq (eBi fList (aCons (eBin opIx (eVar 0) (eC (.int 2))) aNil)) (eBi fSorted (aCons (eBi fSet (aCons (eBin opIx (eVar 0) (eC (.int 2))) aNil)) aNil))))))))
def b_need_rule (Φ : Phi) : SV := (sIf (tNot3 (tB3 (eCall (Φ .rules_so) (aCons (eVar 0) aNil)))) (sRaise 0) sNil)
def b_need_number (Φ : Phi) : SV := (sIf (tNot3 (tB3 (eCall (Φ .is_int) (aCons (eVar 0) (aCons (eVar 1) (aCons (eVar 2) aNil)))))) (sRaise 2) sNil)
def b_served (Φ : Phi) : SV := (sSeq (sAsg (.tup [3, 4, 5, 6]) (eVar 0))
  (sSeq (sAsg (.one 7) (eBi fMin (aCons (eVar 6) (aCons (eVar 2) aNil))))
  (sSeq (sAsg (.one 8) (eBin opSub (eVar 2) (eVar 7)))
  (sSeq (sIf (tOr3 (tB3 (eBin opGt (eBin opAdd (eVar 1) (eVar 2)) (eVar 3))) (tB3 (eBin opGt (eVar 8) (eVar 5)))) (sRet (eC (.bl false))) sNil)
  (sRet (eBin opLe (eBin opAdd (eVar 8) (eBi fMax (aCons (eC (.int 0)) (aCons (eBin opSub (eVar 1) (eBin opSub (eVar 6) (eVar 7))) aNil)))) (eVar 4)))))))
def b_is_caught_1 (Φ : Phi) : SV := (sIf (tNot3 (tB3 (eCall (Φ .served) (aCons (eVar 0) (aCons (eVar 4) (aCons (eVar 5) aNil)))))) (sRet (eC (.bl true))) sNil)
def b_is_caught_2 (Φ : Phi) : SV := (sFor (iRg1 (eBin opAdd (eBi fMin (aCons (eVar 2) (aCons (eBin opSub (eVar 3) (eVar 4)) aNil))) (eC (.int 1)))) (.one 5) (b_is_caught_1 Φ))
def b_is_caught (Φ : Phi) : SV := (sSeq (sFor (iRg1 (eBin opAdd (eBi fMin (aCons (eVar 1) (aCons (eVar 3) aNil))) (eC (.int 1)))) (.one 4) (b_is_caught_2 Φ))
  (sRet (eC (.bl false))))
def b_stops_of (Φ : Phi) : SV := (sSeq (sAsg (.one 2) (eBi fLen (aCons (eComp (iSeq (eBin opIx (eVar 0) (eC (.int 2)))) (.one 3) (tB3 (eBin opLt (eVar 3) (eVar 1))) (eVar 3) [3]) aNil)))
  (sRet (eTup (aCons (eVar 2) (aCons (eBin opSub (eBin opSub (eVar 1) (eC (.int 1))) (eVar 2)) aNil)))))
def b_caught_so (Φ : Phi) : SV := (sSeq (sAsg (.tup [4, 5]) (eCall (Φ .stops_of) (aCons (eVar 0) (aCons (eVar 1) aNil))))
  (sRet (eCall (Φ .is_caught) (aCons (eTup (aCons (eVar 2) (aCons (eBin opIx (eVar 0) (eC (.int 0))) (aCons (eBin opIx (eVar 0) (eC (.int 1))) (aCons (eBin opIx (eVar 0) (eC (.int 3))) aNil))))) (aCons (eVar 4) (aCons (eVar 5) (aCons (eVar 3) aNil)))))))
def b_need_all (Φ : Phi) : SV := (sSeq (sExp (eCall (Φ .need_rule) (aCons (eVar 0) aNil)))
  (sExp (eCall (Φ .need_number) (aCons (eVar 1) (aCons (eC (.int 1)) (aCons (eC (.int 1000000000000000000000000000000)) aNil))))))
def b_caught (Φ : Phi) : SV := (sSeq (sExp (eCall (Φ .need_all) (aCons (eVar 0) (aCons (eVar 1) aNil))))
  (sSeq (sExp (eCall (Φ .need_number) (aCons (eVar 2) (aCons (eC (.int 0)) (aCons (eC (.int 20)) aNil)))))
  (sSeq (sExp (eCall (Φ .need_number) (aCons (eVar 3) (aCons (eC (.int 0)) (aCons (eC (.int 20)) aNil)))))
  (sRet (eCall (Φ .caught_so) (aCons (eVar 0) (aCons (eVar 1) (aCons (eVar 2) (aCons (eVar 3) aNil)))))))))
def b_most_hurts_1 (Φ : Phi) : SV := (sIf (tB3 (eCall (Φ .caught_so) (aCons (eVar 0) (aCons (eVar 1) (aCons (eVar 2) (aCons (eVar 3) aNil)))))) (sRet (eBin opSub (eVar 3) (eC (.int 1)))) sNil)
def b_most_hurts (Φ : Phi) : SV := (sSeq (sExp (eCall (Φ .need_all) (aCons (eVar 0) (aCons (eVar 1) aNil))))
  (sSeq (sExp (eCall (Φ .need_number) (aCons (eVar 2) (aCons (eC (.int 0)) (aCons (eC (.int 20)) aNil)))))
  (sSeq (sFor (iRg2 (eC (.int 1)) (eBin opAdd (eC (.int 20)) (eC (.int 2)))) (.one 3) (b_most_hurts_1 Φ))
  (sRet (eC .non)))))
def b_least_bench (Φ : Phi) : SV := (sSeq (sExp (eCall (Φ .need_all) (aCons (eVar 0) (aCons (eVar 1) aNil))))
  (sSeq (sExp (eCall (Φ .need_number) (aCons (eVar 2) (aCons (eC (.int 0)) (aCons (eC (.int 20)) aNil)))))
  (sRet (eCall (Φ .hurts_least) (aCons (eVar 0) (aCons (eVar 1) (aCons (eVar 2) aNil)))))))
def b_hurts_least (Φ : Phi) : SV := (sSeq (sAsg (.one 3) (eComp (iRg1 (eBin opAdd (eC (.int 20)) (eC (.int 1)))) (.one 4) (tNot3 (tB3 (eCall (Φ .caught_so) (aCons (eVar 0) (aCons (eVar 1) (aCons (eVar 4) (aCons (eVar 2) aNil))))))) (eVar 4) [4]))
  (sRet (eIf (tB3 (eBin opNe (eVar 3) (eLst aNil))) (eBin opIx (eVar 3) (eC (.int 0))) (eC .non))))
def b_mends_1 (Φ : Phi) : SV := (sSeq (sAsg (.one 9) (eTup (aCons (eBin opAdd (eVar 2) (eBin opMul (eVar 8) (eBi fInt (aCons (eBin opEq (eVar 7) (eC (.str "bench"))) aNil)))) (aCons (eBin opAdd (eBin opIx (eVar 0) (eC (.int 0))) (eBin opMul (eVar 8) (eBi fInt (aCons (eBin opEq (eVar 7) (eC (.str "changes"))) aNil)))) (aCons (eBin opAdd (eBin opIx (eVar 0) (eC (.int 1))) (eBin opMul (eVar 8) (eBi fInt (aCons (eBin opEq (eVar 7) (eC (.str "windows"))) aNil)))) (aCons (eBin opAdd (eBin opIx (eVar 0) (eC (.int 3))) (eBin opMul (eVar 8) (eBi fInt (aCons (eBin opEq (eVar 7) (eC (.str "knocks"))) aNil)))) aNil))))))
  (sIf (tAnd3 (tOr3 (tB3 (eBin opEq (eVar 6) (eLst aNil))) (tB3 (eBin opNe (eBin opIx (eBin opIx (eVar 6) (eUn opNeg (eC (.int 1)))) (eC (.int 0))) (eVar 7)))) (tNot3 (tB3 (eCall (Φ .is_caught) (aCons (eVar 9) (aCons (eVar 4) (aCons (eVar 5) (aCons (eVar 3) aNil)))))))) (sExp (eApp (eVar 6) (eTup (aCons (eVar 7) (aCons (eVar 8) aNil))))) sNil))
def b_mends_2 (Φ : Phi) : SV := (sFor (iRg1 (eBin opAdd (eC (.int 20)) (eC (.int 1)))) (.one 8) (b_mends_1 Φ))
def b_mends (Φ : Phi) : SV := (sSeq (sExp (eCall (Φ .need_all) (aCons (eVar 0) (aCons (eVar 1) aNil))))
  (sSeq (sExp (eCall (Φ .need_number) (aCons (eVar 2) (aCons (eC (.int 0)) (aCons (eC (.int 20)) aNil)))))
  (sSeq (sExp (eCall (Φ .need_number) (aCons (eVar 3) (aCons (eC (.int 0)) (aCons (eC (.int 20)) aNil)))))
  (sSeq (sAsg (.tup [4, 5]) (eCall (Φ .stops_of) (aCons (eVar 0) (aCons (eVar 1) aNil))))
  (sSeq (sAsg (.one 6) (eLst aNil))
  (sSeq (sFor (iSeq (eC (.tup [(.str "bench"), (.str "changes"), (.str "knocks"), (.str "windows")]))) (.one 7) (b_mends_2 Φ))
  (sRet (eVar 6))))))))
def b_law_flask_of (Φ : Phi) : SV := (sSeq (sAsg (.one 2) (eBin opAdd (eBin opMul (eC (.int 37003)) (eVar 1)) (eC (.int 73))))
  (sSeq (sIf (tB3 (eBin opLt (eVar 1) (eBi fLen (aCons (eVar 0) aNil)))) (sAsg (.one 2) (eBin opMod (eBi fAbs (aCons (eBi fInt (aCons (eBin opIx (eVar 0) (eVar 1)) aNil)) aNil)) (eBin opMul (eBin opMul (eBin opMul (eBin opPow (eC (.int 10)) (eC (.int 60))) (eBin opPow (eC (.int 10)) (eC (.int 60)))) (eBin opPow (eC (.int 10)) (eC (.int 60)))) (eBin opPow (eC (.int 10)) (eC (.int 60)))))) (sIf (tB3 (eBin opGt (eBi fLen (aCons (eVar 0) aNil)) (eC (.int 0)))) (sAsg (.one 2) (eBin opAdd (eVar 2) (eBin opMod (eBi fAbs (aCons (eBi fInt (aCons (eBin opIx (eVar 0) (eC (.int 0))) aNil)) aNil)) (eC (.int 1000291))))) sNil))
  (sRet (eLst (aCons (eIf (tB3 (eBin opGe (eVar 2) (eBin opPow (eC (.int 10)) (eC (.int 18))))) (eVar 2) (eC (.int 0))) (aCons (eBin opAdd (eBin opMod (eBi fInt (aCons (eBin opAdd (eBin opAdd (eBin opMul (eBin opMod (eVar 2) (eC (.int 2147482577))) (eC (.int 59))) (eBin opMul (eC (.int 149)) (eVar 1))) (eC (.int 97))) aNil)) (eC (.int 2147482577))) (eC (.int 1))) aNil))))))
def b_law_sip_1 (Φ : Phi) : SV := (sSeq (sSetIx opSet (eVar 0) (eC (.int 1)) (eBin opMod (eBi fInt (aCons (eBin opAdd (eBin opMul (eBin opIx (eVar 0) (eC (.int 1))) (eC (.int 16381))) (eC (.int 157))) aNil)) (eC (.int 2147482577))))
  (sSeq (sAsg (.one 2) (eBin opAdd (eBin opMul (eVar 2) (eC (.int 8192))) (eBin opMod (eBi fInt (aCons (eBin opDiv (eBin opIx (eVar 0) (eC (.int 1))) (eC (.int 65809))) aNil)) (eC (.int 8192)))))
  (sAsg (.one 3) (eBin opMul (eVar 3) (eC (.int 8192))))))
def b_law_sip (Φ : Phi) : SV := (sSeq (sIf (tB3 (eBin opGt (eBin opIx (eVar 0) (eC (.int 0))) (eC (.int 0)))) (sSeq (sAsg (.one 2) (eBin opMod (eBi fInt (aCons (eBin opIx (eVar 0) (eC (.int 0))) aNil)) (eVar 1)))
  (sSeq (sSetIx opSet (eVar 0) (eC (.int 0)) (eBin opDiv (eBin opIx (eVar 0) (eC (.int 0))) (eVar 1)))
  (sRet (eVar 2)))) sNil)
  (sSeq (sAsg (.tup [2, 3]) (eTup (aCons (eC (.int 0)) (aCons (eC (.int 1)) aNil))))
  (sSeq (whileL (tOr3 (tB3 (eBin opLt (eVar 3) (eVar 1))) (tB3 (eBin opEq (eVar 3) (eC (.int 1))))) (b_law_sip_1 Φ) 1000000)
  (sRet (eBin opMod (eBi fInt (aCons (eVar 2) aNil)) (eVar 1))))))
def b_law_some (Φ : Phi) : SV := (sRet (eBin opIx (eVar 1) (eCall (Φ .law_sip) (aCons (eVar 0) (aCons (eBi fLen (aCons (eVar 1) aNil)) aNil)))))
def b_law_code (Φ : Phi) : SV := (sSeq (sAsg (.one 1) (eCall (Φ .law_some) (aCons (eVar 0) (aCons (eLst (aCons (eTup aNil) (aCons (eTup aNil) (aCons (eTup (aCons (eC (.int 1)) aNil)) (aCons (eTup (aCons (eC (.int 2)) aNil)) (aCons (eTup (aCons (eC (.int 3)) aNil)) (aCons (eTup (aCons (eC (.int 2)) (aCons (eC (.int 3)) aNil))) (aCons (eTup (aCons (eC (.int 1)) (aCons (eC (.int 4)) aNil))) (aCons (eTup (aCons (eC (.int 5)) (aCons (eC (.int 12)) aNil))) aNil))))))))) aNil))))
  (sRet (eTup (aCons (eCall (Φ .law_sip) (aCons (eVar 0) (aCons (eC (.int 4)) aNil))) (aCons (eCall (Φ .law_sip) (aCons (eVar 0) (aCons (eC (.int 3)) aNil))) (aCons (eVar 1) (aCons (eCall (Φ .law_sip) (aCons (eVar 0) (aCons (eC (.int 3)) aNil))) aNil)))))))
def b_law_lost (Φ : Phi) : SV := (sSeq (sIf (tB3 (eBin opGe (eVar 2) (eVar 1))) (sRet (eC (.bl false))) sNil)
  (sSeq (sAsg (.one 5) (eTup (aCons (eVar 2) (aCons (eVar 3) aNil))))
  (sSeq (sIf (tB3 (eBin opNotInD (eVar 5) (eVar 4))) (sSeq (sAsg (.tup [6, 7, 8, 9, 10]) (eVar 3))
  (sSeq (sAsg (.one 11) (eCall (Φ .law_lost) (aCons (eVar 0) (aCons (eVar 1) (aCons (eBin opAdd (eVar 2) (eC (.int 1))) (aCons (eVar 3) (aCons (eVar 4) aNil)))))))
  (sSeq (sIf (tAnd3 (tB3 (eBin opGt (eVar 10) (eC (.int 0)))) (tNot3 (tB3 (eVar 11)))) (sSeq (sPar 12 13 (eBi fInt (aCons (eBin opNotIn (eVar 2) (eBin opIx (eVar 0) (eC (.int 2)))) aNil)) (eC (.bl false)))
  (sSeq (sIf (tAnd3 (tB3 (eBin opGt (eVar 6) (eC (.int 0)))) (tB3 (eBin opGt (eVar 9) (eC (.int 0))))) (sSeq (sAsg (.one 14) (eTup (aCons (eBin opSub (eVar 6) (eC (.int 1))) (aCons (eVar 7) (aCons (eVar 8) (aCons (eBin opSub (eVar 9) (eC (.int 1))) (aCons (eBin opSub (eVar 10) (eC (.int 1))) aNil)))))))
  (sAsg (.one 13) (eNot (eCall (Φ .law_lost) (aCons (eVar 0) (aCons (eVar 1) (aCons (eBin opAdd (eVar 2) (eC (.int 1))) (aCons (eVar 14) (aCons (eVar 4) aNil))))))))) sNil)
  (sSeq (sIf (tAnd3 (tB3 (eBin opGt (eVar 6) (eC (.int 0)))) (tAnd3 (tB3 (eBin opGt (eVar 7) (eC (.int 0)))) (tAnd3 (tB3 (eBin opGe (eVar 8) (eVar 12))) (tNot3 (tB3 (eVar 13)))))) (sSeq (sAsg (.one 14) (eTup (aCons (eBin opSub (eVar 6) (eC (.int 1))) (aCons (eBin opSub (eVar 7) (eC (.int 1))) (aCons (eBin opSub (eVar 8) (eVar 12)) (aCons (eVar 9) (aCons (eBin opSub (eVar 10) (eC (.int 1))) aNil)))))))
  (sAsg (.one 13) (eNot (eCall (Φ .law_lost) (aCons (eVar 0) (aCons (eVar 1) (aCons (eBin opAdd (eVar 2) (eC (.int 1))) (aCons (eVar 14) (aCons (eVar 4) aNil))))))))) sNil)
  (sAsg (.one 11) (eNot (eVar 13)))))) sNil)
  (sSetIx opSetD (eVar 4) (eVar 5) (eVar 11))))) sNil)
  (sRet (eBin opIxD (eVar 4) (eVar 5))))))
def b_law_mended_1 (Φ : Phi) : SV := (sSeq (sAsg (.one 8) (eTup (aCons (eBin opAdd (eVar 2) (eBin opMul (eVar 7) (eBi fInt (aCons (eBin opEq (eVar 5) (eC (.int 0))) aNil)))) (aCons (eBin opAdd (eBin opIx (eVar 0) (eC (.int 0))) (eBin opMul (eVar 7) (eBi fInt (aCons (eBin opEq (eVar 5) (eC (.int 1))) aNil)))) aNil))))
  (sSeq (sAsg (.one 8) (eBin opAdd (eVar 8) (eTup (aCons (eBin opAdd (eBin opIx (eVar 0) (eC (.int 1))) (eBin opMul (eVar 7) (eBi fInt (aCons (eBin opEq (eVar 5) (eC (.int 3))) aNil)))) aNil))))
  (sSeq (sAsg (.one 8) (eBin opAdd (eVar 8) (eTup (aCons (eBin opAdd (eBin opIx (eVar 0) (eC (.int 3))) (eBin opMul (eVar 7) (eBi fInt (aCons (eBin opEq (eVar 5) (eC (.int 2))) aNil)))) (aCons (eVar 3) aNil)))))
  (sSeq (sAsg (.one 9) (eComp (iSeq (eVar 4)) (.one 10) (tB3 (eBin opEq (eBin opIx (eVar 10) (eC (.int 0))) (eVar 6))) (eVar 10) [10]))
  (sIf (tAnd3 (tB3 (eBin opEq (eVar 9) (eLst aNil))) (tNot3 (tB3 (eCall (Φ .law_lost) (aCons (eVar 0) (aCons (eVar 1) (aCons (eC (.int 1)) (aCons (eVar 8) (aCons eDNew aNil))))))))) (sExp (eApp (eVar 4) (eTup (aCons (eVar 6) (aCons (eVar 7) aNil))))) sNil)))))
def b_law_mended_2 (Φ : Phi) : SV := (sFor (iRg1 (eC (.int 8))) (.one 7) (b_law_mended_1 Φ))
def b_law_mended (Φ : Phi) : SV := (sSeq (sAsg (.one 4) (eLst aNil))
  (sSeq (sFor (iEnumL (eLst (aCons (eC (.str "bench")) (aCons (eC (.str "changes")) (aCons (eC (.str "knocks")) (aCons (eC (.str "windows")) aNil)))))) (.tup [5, 6]) (b_law_mended_2 Φ))
  (sRet (eVar 4))))
def b_law_refused_1 (Φ : Phi) : SV := (sSeq (sIf (tB3 (eBin opNe (eWord (eCall (Φ .mends) (aCons (eVar 0) (aCons (eC (.int 5)) (aCons (eVar 1) (aCons (eC .non) aNil)))))) (eC (.str "number")))) (sRet (eC (.bl false))) sNil)
  (sSeq (sIf (tB3 (eBin opNe (eWord (eCall (Φ .least_bench) (aCons (eVar 0) (aCons (eC (.int 5)) (aCons (eVar 1) aNil))))) (eC (.str "number")))) (sRet (eC (.bl false))) sNil)
  (sIf (tB3 (eBin opNe (eWord (eCall (Φ .most_hurts) (aCons (eVar 0) (aCons (eC (.int 5)) (aCons (eVar 1) aNil))))) (eC (.str "number")))) (sRet (eC (.bl false))) sNil)))
def b_law_refused (Φ : Phi) : SV := (sSeq (sFor (iSeq (eLst (aCons (eUn opNeg (eC (.int 1))) (aCons (eC (.int 21)) (aCons (eC .non) (aCons (eC (.bl true)) aNil)))))) (.one 1) (b_law_refused_1 Φ))
  (sRet (eC (.bl true))))
def b_law_1 (Φ : Phi) : SV := (sAsg (.one 8) (eBin opAdd (eVar 8) (eIf (tB3 (eCall (Φ .caught) (aCons (eVar 4) (aCons (eVar 5) (aCons (eVar 10) (aCons (eVar 7) aNil)))))) (eLst aNil) (eLst (aCons (eVar 10) aNil)))))
def b_law_2 (Φ : Phi) : SV := (sSeq (sAsg (.one 4) (eCall (Φ .law_code) (aCons (eVar 2) aNil)))
  (sSeq (sAsg (.one 5) (eCall (Φ .law_some) (aCons (eVar 2) (aCons (eLst (aCons (eC (.int 1)) (aCons (eC (.int 2)) (aCons (eC (.int 3)) (aCons (eC (.int 4)) (aCons (eC (.int 6)) (aCons (eC (.int 13)) (aCons (eC (.int 30)) (aCons (eBin opPow (eC (.int 10)) (eC (.int 30))) aNil))))))))) aNil))))
  (sSeq (sAsg (.tup [6, 7]) (eTup (aCons (eCall (Φ .law_sip) (aCons (eVar 2) (aCons (eC (.int 6)) aNil))) (aCons (eCall (Φ .law_sip) (aCons (eVar 2) (aCons (eC (.int 5)) aNil))) aNil))))
  (sSeq (sAsg (.one 8) (eComp (iRg1 (eC (.int 21))) (.one 10) (tB3 (eCall (Φ .caught) (aCons (eVar 4) (aCons (eVar 5) (aCons (eVar 6) (aCons (eVar 10) aNil)))))) (eVar 10) [10]))
  (sSeq (sAsg (.one 9) (eCall (Φ .most_hurts) (aCons (eVar 4) (aCons (eVar 5) (aCons (eVar 6) aNil)))))
  (sSeq (sIf (tB3 (eBin opNe (eVar 9) (eIf (tB3 (eBin opNe (eVar 8) (eLst aNil))) (eBin opSub (eBin opIx (eVar 8) (eC (.int 0))) (eC (.int 1))) (eC .non)))) (sIf (tOr3 (tB3 (eBin opNe (eVar 8) (eLst aNil))) (tB3 (eBin opNe (eVar 9) (eC (.int 20))))) (sRet (eC (.bl false))) sNil) sNil)
  (sSeq (sAsg (.one 8) (eLst aNil))
  (sSeq (sFor (iRg1 (eC (.int 21))) (.one 10) (b_law_1 Φ))
  (sSeq (sIf (tB3 (eBin opNe (eCall (Φ .least_bench) (aCons (eVar 4) (aCons (eVar 5) (aCons (eVar 7) aNil)))) (eIf (tB3 (eBin opNe (eVar 8) (eLst aNil))) (eBin opIx (eVar 8) (eC (.int 0))) (eC .non)))) (sRet (eC (.bl false))) sNil)
  (sSeq (sAsg (.one 11) (eBi fMin (aCons (eVar 5) (aCons (eC (.int 7)) aNil))))
  (sIf (tB3 (eBin opNe (eCall (Φ .mends) (aCons (eVar 4) (aCons (eVar 11) (aCons (eVar 6) (aCons (eVar 7) aNil))))) (eCall (Φ .law_mended) (aCons (eVar 4) (aCons (eVar 11) (aCons (eVar 6) (aCons (eVar 7) aNil))))))) (sRet (eC (.bl false))) sNil)))))))))))
def b_law_3 (Φ : Phi) : SV := (sSeq (sAsg (.one 2) (eCall (Φ .law_flask_of) (aCons (eVar 0) (aCons (eVar 1) aNil))))
  (sSeq (sFor (iRg1 (eC (.int 4))) (.one 3) (b_law_2 Φ))
  (sIf (tNot3 (tB3 (eCall (Φ .law_refused) (aCons (eVar 4) aNil)))) (sRet (eC (.bl false))) sNil)))
def b_law (Φ : Phi) : SV := (sSeq (sFor (iRg1 (eBin opAdd (eC (.int 1)) (eBi fMin (aCons (eBi fLen (aCons (eVar 0) aNil)) (aCons (eC (.int 6)) aNil))))) (.one 1) (b_law_3 Φ))
  (sSeq (sAsg (.one 12) (eTup (aCons (eC (.int 1)) (aCons (eC (.int 1)) (aCons (eTup aNil) (aCons (eC (.int 0)) aNil))))))
  (sSeq (sIf (tB3 (eBin opNe (eLst (aCons (eCall (Φ .most_hurts) (aCons (eVar 12) (aCons (eC (.int 2)) (aCons (eC (.int 1)) aNil)))) (aCons (eCall (Φ .most_hurts) (aCons (eVar 12) (aCons (eC (.int 3)) (aCons (eC (.int 1)) aNil)))) (aCons (eCall (Φ .most_hurts) (aCons (eTup (aCons (eC (.int 3)) (aCons (eC (.int 1)) (aCons (eTup aNil) (aCons (eC (.int 0)) aNil))))) (aCons (eC (.int 10)) (aCons (eC (.int 5)) aNil)))) aNil)))) (eLst (aCons (eC .non) (aCons (eC (.int 1)) (aCons (eC (.int 1)) aNil)))))) (sRet (eC (.bl false))) sNil)
  (sSeq (sIf (tB3 (eBin opNe (eLst (aCons (eCall (Φ .most_hurts) (aCons (eTup (aCons (eC (.int 3)) (aCons (eC (.int 1)) (aCons (eTup aNil) (aCons (eC (.int 1)) aNil))))) (aCons (eC (.int 10)) (aCons (eC (.int 5)) aNil)))) (aCons (eCall (Φ .most_hurts) (aCons (eTup (aCons (eC (.int 3)) (aCons (eC (.int 0)) (aCons (eTup (aCons (eC (.int 4)) (aCons (eC (.int 5)) aNil))) (aCons (eC (.int 0)) aNil))))) (aCons (eC (.int 10)) (aCons (eC (.int 5)) aNil)))) aNil))) (eLst (aCons (eC (.int 2)) (aCons (eC (.int 0)) aNil))))) (sRet (eC (.bl false))) sNil)
  (sSeq (sIf (tB3 (eBin opNe (eLst (aCons (eCall (Φ .least_bench) (aCons (eTup (aCons (eC (.int 3)) (aCons (eC (.int 1)) (aCons (eTup aNil) (aCons (eC (.int 1)) aNil))))) (aCons (eBin opPow (eC (.int 10)) (eC (.int 30))) (aCons (eC (.int 2)) aNil)))) (aCons (eCall (Φ .least_bench) (aCons (eTup (aCons (eC (.int 3)) (aCons (eC (.int 1)) (aCons (eTup aNil) (aCons (eC (.int 1)) aNil))))) (aCons (eBin opPow (eC (.int 10)) (eC (.int 30))) (aCons (eC (.int 3)) aNil)))) aNil))) (eLst (aCons (eC (.int 2)) (aCons (eC .non) aNil))))) (sRet (eC (.bl false))) sNil)
  (sSeq (sIf (tOr3 (tB3 (eBin opNe (eCall (Φ .mends) (aCons (eVar 12) (aCons (eC (.int 9)) (aCons (eC (.int 1)) (aCons (eC (.int 2)) aNil))))) (eLst aNil))) (tB3 (eBin opNe (eCall (Φ .mends) (aCons (eTup (aCons (eC (.int 2)) (aCons (eC (.int 1)) (aCons (eTup aNil) (aCons (eC (.int 0)) aNil))))) (aCons (eC (.int 9)) (aCons (eC (.int 2)) (aCons (eC (.int 2)) aNil))))) (eLst (aCons (eTup (aCons (eC (.str "knocks")) (aCons (eC (.int 1)) aNil))) (aCons (eTup (aCons (eC (.str "windows")) (aCons (eC (.int 1)) aNil))) aNil)))))) (sRet (eC (.bl false))) sNil)
  (sSeq (sIf (tOr3 (tB3 (eBin opNe (eCall (Φ .mends) (aCons (eTup (aCons (eC (.int 2)) (aCons (eC (.int 2)) (aCons (eTup aNil) (aCons (eC (.int 0)) aNil))))) (aCons (eC (.int 9)) (aCons (eC (.int 0)) (aCons (eC (.int 2)) aNil))))) (eLst (aCons (eTup (aCons (eC (.str "bench")) (aCons (eC (.int 2)) aNil))) aNil)))) (tB3 (eBin opNe (eCall (Φ .mends) (aCons (eTup (aCons (eC (.int 5)) (aCons (eC (.int 0)) (aCons (eTup aNil) (aCons (eC (.int 2)) aNil))))) (aCons (eBin opPow (eC (.int 10)) (eC (.int 30))) (aCons (eC (.int 20)) (aCons (eC (.int 20)) aNil))))) (eLst (aCons (eTup (aCons (eC (.str "knocks")) (aCons (eC (.int 18)) aNil))) aNil))))) (sRet (eC (.bl false))) sNil)
  (sRet (eBin opEq (eCall (Φ .mends) (aCons (eVar 12) (aCons (eC (.int 9)) (aCons (eC (.int 1)) (aCons (eC (.int 1)) aNil))))) (eComp (iSeq (eLst (aCons (eC (.str "bench")) (aCons (eC (.str "changes")) (aCons (eC (.str "knocks")) (aCons (eC (.str "windows")) aNil)))))) (.one 13) tYes3 (eTup (aCons (eVar 13) (aCons (eC (.int 0)) aNil))) [13]))))))))))
def body (Φ : Phi) : F → SV
  | .is_int => b_is_int Φ
  | .rules_so => b_rules_so Φ
  | .need_rule => b_need_rule Φ
  | .need_number => b_need_number Φ
  | .served => b_served Φ
  | .is_caught => b_is_caught Φ
  | .stops_of => b_stops_of Φ
  | .caught_so => b_caught_so Φ
  | .need_all => b_need_all Φ
  | .caught => b_caught Φ
  | .most_hurts => b_most_hurts Φ
  | .least_bench => b_least_bench Φ
  | .hurts_least => b_hurts_least Φ
  | .mends => b_mends Φ
  | .law_flask_of => b_law_flask_of Φ
  | .law_sip => b_law_sip Φ
  | .law_some => b_law_some Φ
  | .law_code => b_law_code Φ
  | .law_lost => b_law_lost Φ
  | .law_mended => b_law_mended Φ
  | .law_refused => b_law_refused Φ
  | .law => b_law Φ
def nN : F → Nat
  | .is_int => 3
  | .rules_so => 2
  | .need_rule => 1
  | .need_number => 3
  | .served => 9
  | .is_caught => 6
  | .stops_of => 4
  | .caught_so => 6
  | .need_all => 2
  | .caught => 4
  | .most_hurts => 4
  | .least_bench => 3
  | .hurts_least => 5
  | .mends => 10
  | .law_flask_of => 3
  | .law_sip => 4
  | .law_some => 2
  | .law_code => 2
  | .law_lost => 15
  | .law_mended => 11
  | .law_refused => 2
  | .law => 14
def run : Nat → Phi
  | 0, _, _, _ => .bad
  | n + 1, j, ds, g => runB (body (run n) j) (nN j) ds g
end L3

/-! The derivations of law 07, printed by gen.py. -/
namespace L3
open PySem PySem.Spec PyProof.Rows L2
def top (i : Nat) : Stmt := PySem.Challenge.pw_benchstops_k07_numbers_against_a_foe.main.body.getD i (.Pass ⟨0, 0, 0, 0⟩)
abbrev s_is_int : Stmt := top 22
abbrev N_is_int : List Str := ["value", "low", "high"]
theorem sc_is_int : FnScope N_is_int ["value", "low", "high"] (defScope s_is_int) := ⟨rfl, rfl, rfl, by decide +kernel, rfl, by decide +kernel, by decide +kernel⟩
abbrev s_rules_so : Stmt := top 23
abbrev N_rules_so : List Str := ["value", "stop"]
theorem sc_rules_so : FnScope N_rules_so ["value"] (defScope s_rules_so) := ⟨rfl, rfl, rfl, by decide +kernel, rfl, by decide +kernel, by decide +kernel⟩
abbrev s_need_rule : Stmt := top 24
abbrev N_need_rule : List Str := ["value"]
theorem sc_need_rule : FnScope N_need_rule ["value"] (defScope s_need_rule) := ⟨rfl, rfl, rfl, by decide +kernel, rfl, by decide +kernel, by decide +kernel⟩
abbrev s_need_number : Stmt := top 25
abbrev N_need_number : List Str := ["value", "low", "high"]
theorem sc_need_number : FnScope N_need_number ["value", "low", "high"] (defScope s_need_number) := ⟨rfl, rfl, rfl, by decide +kernel, rfl, by decide +kernel, by decide +kernel⟩
abbrev s_served : Stmt := top 29
abbrev N_served : List Str := ["left", "pauses", "plays", "bench", "changes", "windows", "knocks", "by_knock", "others"]
theorem sc_served : FnScope N_served ["left", "pauses", "plays"] (defScope s_served) := ⟨rfl, rfl, rfl, by decide +kernel, rfl, by decide +kernel, by decide +kernel⟩
abbrev s_is_caught : Stmt := top 30
abbrev N_is_caught : List Str := ["left", "pauses", "plays", "hurts", "here", "there"]
theorem sc_is_caught : FnScope N_is_caught ["left", "pauses", "plays", "hurts"] (defScope s_is_caught) := ⟨rfl, rfl, rfl, by decide +kernel, rfl, by decide +kernel, by decide +kernel⟩
abbrev s_stops_of : Stmt := top 31
abbrev N_stops_of : List Str := ["rule", "ticks", "pauses", "stop"]
theorem sc_stops_of : FnScope N_stops_of ["rule", "ticks"] (defScope s_stops_of) := ⟨rfl, rfl, rfl, by decide +kernel, rfl, by decide +kernel, by decide +kernel⟩
abbrev s_caught_so : Stmt := top 32
abbrev N_caught_so : List Str := ["rule", "ticks", "bench", "hurts", "pauses", "plays"]
theorem sc_caught_so : FnScope N_caught_so ["rule", "ticks", "bench", "hurts"] (defScope s_caught_so) := ⟨rfl, rfl, rfl, by decide +kernel, rfl, by decide +kernel, by decide +kernel⟩
abbrev s_need_all : Stmt := top 33
abbrev N_need_all : List Str := ["rule", "ticks"]
theorem sc_need_all : FnScope N_need_all ["rule", "ticks"] (defScope s_need_all) := ⟨rfl, rfl, rfl, by decide +kernel, rfl, by decide +kernel, by decide +kernel⟩
abbrev s_caught : Stmt := top 34
abbrev N_caught : List Str := ["rule", "ticks", "bench", "hurts"]
theorem sc_caught : FnScope N_caught ["rule", "ticks", "bench", "hurts"] (defScope s_caught) := ⟨rfl, rfl, rfl, by decide +kernel, rfl, by decide +kernel, by decide +kernel⟩
abbrev s_most_hurts : Stmt := top 35
abbrev N_most_hurts : List Str := ["rule", "ticks", "bench", "hurts"]
theorem sc_most_hurts : FnScope N_most_hurts ["rule", "ticks", "bench"] (defScope s_most_hurts) := ⟨rfl, rfl, rfl, by decide +kernel, rfl, by decide +kernel, by decide +kernel⟩
abbrev s_least_bench : Stmt := top 36
abbrev N_least_bench : List Str := ["rule", "ticks", "hurts"]
theorem sc_least_bench : FnScope N_least_bench ["rule", "ticks", "hurts"] (defScope s_least_bench) := ⟨rfl, rfl, rfl, by decide +kernel, rfl, by decide +kernel, by decide +kernel⟩
abbrev s_hurts_least : Stmt := top 37
abbrev N_hurts_least : List Str := ["rule", "ticks", "hurts", "some", "bench"]
theorem sc_hurts_least : FnScope N_hurts_least ["rule", "ticks", "hurts"] (defScope s_hurts_least) := ⟨rfl, rfl, rfl, by decide +kernel, rfl, by decide +kernel, by decide +kernel⟩
abbrev s_mends : Stmt := top 38
abbrev N_mends : List Str := ["rule", "ticks", "bench", "hurts", "pauses", "plays", "found", "word", "more", "left"]
theorem sc_mends : FnScope N_mends ["rule", "ticks", "bench", "hurts"] (defScope s_mends) := ⟨rfl, rfl, rfl, by decide +kernel, rfl, by decide +kernel, by decide +kernel⟩
abbrev s_law_flask_of : Stmt := top 40
abbrev N_law_flask_of : List Str := ["script", "k", "cell"]
theorem sc_law_flask_of : FnScope N_law_flask_of ["script", "k"] (defScope s_law_flask_of) := ⟨rfl, rfl, rfl, by decide +kernel, rfl, by decide +kernel, by decide +kernel⟩
abbrev s_law_sip : Stmt := top 41
abbrev N_law_sip : List Str := ["flask", "many", "found", "wide"]
theorem sc_law_sip : FnScope N_law_sip ["flask", "many"] (defScope s_law_sip) := ⟨rfl, rfl, rfl, by decide +kernel, rfl, by decide +kernel, by decide +kernel⟩
abbrev s_law_some : Stmt := top 42
abbrev N_law_some : List Str := ["flask", "things"]
theorem sc_law_some : FnScope N_law_some ["flask", "things"] (defScope s_law_some) := ⟨rfl, rfl, rfl, by decide +kernel, rfl, by decide +kernel, by decide +kernel⟩
abbrev s_law_code : Stmt := top 43
abbrev N_law_code : List Str := ["flask", "pauses_so"]
theorem sc_law_code : FnScope N_law_code ["flask"] (defScope s_law_code) := ⟨rfl, rfl, rfl, by decide +kernel, rfl, by decide +kernel, by decide +kernel⟩
abbrev s_law_lost : Stmt := top 45
abbrev N_law_lost : List Str := ["rule_so", "ticks_so", "stop", "left", "known", "key", "free", "changes", "windows", "knocks", "hurts", "bad", "cost", "good", "later"]
theorem sc_law_lost : FnScope N_law_lost ["rule_so", "ticks_so", "stop", "left", "known"] (defScope s_law_lost) := ⟨rfl, rfl, rfl, by decide +kernel, rfl, by decide +kernel, by decide +kernel⟩
abbrev s_law_mended : Stmt := top 46
abbrev N_law_mended : List Str := ["rule_so", "ticks_so", "free", "hurts", "found", "at", "label", "more", "left", "old", "pair"]
theorem sc_law_mended : FnScope N_law_mended ["rule_so", "ticks_so", "free", "hurts"] (defScope s_law_mended) := ⟨rfl, rfl, rfl, by decide +kernel, rfl, by decide +kernel, by decide +kernel⟩
abbrev s_law_refused : Stmt := top 47
abbrev N_law_refused : List Str := ["code", "odd"]
theorem sc_law_refused : FnScope N_law_refused ["code"] (defScope s_law_refused) := ⟨rfl, rfl, rfl, by decide +kernel, rfl, by decide +kernel, by decide +kernel⟩
abbrev s_law : Stmt := top 48
abbrev N_law : List Str := ["script", "k", "flask", "turn", "code", "ticks_so", "free", "hurts", "some", "told", "number", "short", "plain", "label"]
theorem sc_law : FnScope N_law ["script"] (defScope s_law) := ⟨rfl, rfl, rfl, by decide +kernel, rfl, by decide +kernel, by decide +kernel⟩
abbrev s_law_word : Stmt := top 44
theorem sc_law_word : FnScope ["call", "found", "e"] ["call"] (defScope s_law_word) := ⟨rfl, rfl, rfl, by decide +kernel, rfl, by decide +kernel, by decide +kernel⟩
def nm : F → Str
  | .is_int => "is_int"
  | .rules_so => "rules_so"
  | .need_rule => "need_rule"
  | .need_number => "need_number"
  | .served => "served"
  | .is_caught => "is_caught"
  | .stops_of => "stops_of"
  | .caught_so => "caught_so"
  | .need_all => "need_all"
  | .caught => "caught"
  | .most_hurts => "most_hurts"
  | .least_bench => "least_bench"
  | .hurts_least => "hurts_least"
  | .mends => "mends"
  | .law_flask_of => "_law_flask_of"
  | .law_sip => "_law_sip"
  | .law_some => "_law_some"
  | .law_code => "_law_code"
  | .law_lost => "_law_lost"
  | .law_mended => "_law_mended"
  | .law_refused => "_law_refused"
  | .law => "law"
def st : F → Stmt
  | .is_int => s_is_int
  | .rules_so => s_rules_so
  | .need_rule => s_need_rule
  | .need_number => s_need_number
  | .served => s_served
  | .is_caught => s_is_caught
  | .stops_of => s_stops_of
  | .caught_so => s_caught_so
  | .need_all => s_need_all
  | .caught => s_caught
  | .most_hurts => s_most_hurts
  | .least_bench => s_least_bench
  | .hurts_least => s_hurts_least
  | .mends => s_mends
  | .law_flask_of => s_law_flask_of
  | .law_sip => s_law_sip
  | .law_some => s_law_some
  | .law_code => s_law_code
  | .law_lost => s_law_lost
  | .law_mended => s_law_mended
  | .law_refused => s_law_refused
  | .law => s_law
def ps : F → List Str
  | .is_int => ["value", "low", "high"]
  | .rules_so => ["value"]
  | .need_rule => ["value"]
  | .need_number => ["value", "low", "high"]
  | .served => ["left", "pauses", "plays"]
  | .is_caught => ["left", "pauses", "plays", "hurts"]
  | .stops_of => ["rule", "ticks"]
  | .caught_so => ["rule", "ticks", "bench", "hurts"]
  | .need_all => ["rule", "ticks"]
  | .caught => ["rule", "ticks", "bench", "hurts"]
  | .most_hurts => ["rule", "ticks", "bench"]
  | .least_bench => ["rule", "ticks", "hurts"]
  | .hurts_least => ["rule", "ticks", "hurts"]
  | .mends => ["rule", "ticks", "bench", "hurts"]
  | .law_flask_of => ["script", "k"]
  | .law_sip => ["flask", "many"]
  | .law_some => ["flask", "things"]
  | .law_code => ["flask"]
  | .law_lost => ["rule_so", "ticks_so", "stop", "left", "known"]
  | .law_mended => ["rule_so", "ticks_so", "free", "hurts"]
  | .law_refused => ["code"]
  | .law => ["script"]
def ar : F → Nat
  | .is_int => 3
  | .rules_so => 1
  | .need_rule => 1
  | .need_number => 3
  | .served => 3
  | .is_caught => 4
  | .stops_of => 2
  | .caught_so => 4
  | .need_all => 2
  | .caught => 4
  | .most_hurts => 3
  | .least_bench => 3
  | .hurts_least => 3
  | .mends => 4
  | .law_flask_of => 2
  | .law_sip => 2
  | .law_some => 2
  | .law_code => 1
  | .law_lost => 5
  | .law_mended => 4
  | .law_refused => 1
  | .law => 1
def exNm : List Str := ["InvalidRule", "InvalidSquad", "InvalidNumber", "InvalidPlan", "InvalidStanding", "InvalidPlace", "InvalidRow", "InvalidReply", "InvalidText", "Unlike", "Over", "NothingToUndo", "TooMany", "BenchError"]
def exA (K : PySem.W.Frag) (c : Nat) : Addr := He.ga K (exNm.getD c "")
def lamQ (x : Str) (sc : Scope) : Str := (envOfC x sc 0 0 .none).qual ++ "<lambda>"
def tfs : List He.Defn := [("_law_refused", none)]
def tabs (K : PySem.W.Frag) : List (Addr × Str) := [((He.cT K ("_law_refused", none)).2, lamQ "_law_refused" (defScope s_law_refused))]
def zOf (K : PySem.W.Frag) (P : Program) (w : World) : Row := ⟨⟨K, P, w⟩, tabs K, exA K⟩
structure Tx (K : PySem.W.Frag) (mg : Str → Option Value) (fd : F → FuncData) (fdw : FuncData) : Prop where
  mgF : ∀ j, mg (nm j) = some (.ref (He.fAd K (nm j, none)))
  fn : ∀ j, FunD K (nm j) (nm j) (defArgs (st j)) (defBody (st j)) (defScope (st j)) [] [] (He.fAd K (nm j, none)) (fd j)
  bd : ∀ j, Binds K (fd j) (ps j) []
  n_abs : mg "abs" = none
  n_bool : mg "bool" = none
  n_enumerate : mg "enumerate" = none
  n_int : mg "int" = none
  n_isinstance : mg "isinstance" = none
  n_len : mg "len" = none
  n_list : mg "list" = none
  n_max : mg "max" = none
  n_min : mg "min" = none
  n_range : mg "range" = none
  n_set : mg "set" = none
  n_sorted : mg "sorted" = none
  n_tuple : mg "tuple" = none
  c_GREAT : ∃ t, mg "GREAT" = some (.int 1000000000000000000000000000000 t)
  c_LAST_PAUSE : ∃ t, mg "LAST_PAUSE" = some (.int 12 t)
  c_MOST_BENCH : ∃ t, mg "MOST_BENCH" = some (.int 20 t)
  c_MOST_CHANGES : ∃ t, mg "MOST_CHANGES" = some (.int 5 t)
  c_MOST_KNOCKS : ∃ t, mg "MOST_KNOCKS" = some (.int 2 t)
  c_MOST_PAUSES : ∃ t, mg "MOST_PAUSES" = some (.int 2 t)
  c_MOST_WINDOWS : ∃ t, mg "MOST_WINDOWS" = some (.int 4 t)
  c_WORDS : mg "WORDS" = some (.ref (He.ga K "WORDS")) ∧ tupS K (He.ga K "WORDS") [(.str "bench"), (.str "changes"), (.str "knocks"), (.str "windows")] = true
  mgW : mg "_law_word" = some (.ref (He.fAd K ("_law_word", none)))
  wd : FunD K "_law_word" "_law_word" (defArgs s_law_word) (defBody s_law_word) (defScope s_law_word) [] [] (He.fAd K ("_law_word", none)) fdw
  wb : Binds K fdw ["call"] []
  gx : ∀ c, c < 14 → mg (exNm.getD c "") = some (.ref (exA K c))
  ex : ∀ c, c < 12 → PySem.W.excIn K (exA K c) He.veBase "ValueError.__new__" = true ∧ PySem.W.keepIn K (.ref (exA K c)) = true ∧ PySem.W.subIn K (.ref (exA K c)) (.type "BaseException") = some true ∧ PySem.W.typeIn K (.ref (exA K c)) = some (.type "type")
  xm : ∀ c j, c < 12 → j < 12 → PySem.W.exmOne K (.ref (exA K c)) (.ref (exA K j)) = some (decide (c = j))
theorem gives_w {X : Cx} {K : PySem.W.Frag} {mg : Str → Option Value} {fd : F → FuncData} {fdw : FuncData} {g : Addr} {cdv : Value} {q : Str} (hK : X.K = K) (hmg : X.mg = mg) (T : Tx K mg fd fdw) :
    LamX.GivesTo X ["call", "found", "e"] "_law_word" (defScope s_law_word) g cdv (defBody s_law_word) "call" q (TTw (exA K)) := by
  subst hK hmg
  exact gives_word (l := [(.ref (exA X.K 12), none), (.ref (exA X.K 13), some (tsW "base"))]) sc_law_word.nd rfl rfl (fun c j h1 h2 => T.xm c j h1 (by omega)) (fun s H =>
    (.take (ts := tsW "rule") ⟨rfl, by decide, .inl (T.gx 0 (by decide))⟩ (fun a o cls d pn => pss_one (ps_set (i := 1) sc_law_word.nd rfl (.inl rfl) pe_str rfl (.inr rfl)))
    (.take (ts := tsW "squad") ⟨rfl, by decide, .inl (T.gx 1 (by decide))⟩ (fun a o cls d pn => pss_one (ps_set (i := 1) sc_law_word.nd rfl (.inl rfl) pe_str rfl (.inr rfl)))
    (.take (ts := tsW "number") ⟨rfl, by decide, .inl (T.gx 2 (by decide))⟩ (fun a o cls d pn => pss_one (ps_set (i := 1) sc_law_word.nd rfl (.inl rfl) pe_str rfl (.inr rfl)))
    (.take (ts := tsW "plan") ⟨rfl, by decide, .inl (T.gx 3 (by decide))⟩ (fun a o cls d pn => pss_one (ps_set (i := 1) sc_law_word.nd rfl (.inl rfl) pe_str rfl (.inr rfl)))
    (.take (ts := tsW "standing") ⟨rfl, by decide, .inl (T.gx 4 (by decide))⟩ (fun a o cls d pn => pss_one (ps_set (i := 1) sc_law_word.nd rfl (.inl rfl) pe_str rfl (.inr rfl)))
    (.take (ts := tsW "place") ⟨rfl, by decide, .inl (T.gx 5 (by decide))⟩ (fun a o cls d pn => pss_one (ps_set (i := 1) sc_law_word.nd rfl (.inl rfl) pe_str rfl (.inr rfl)))
    (.take (ts := tsW "row") ⟨rfl, by decide, .inl (T.gx 6 (by decide))⟩ (fun a o cls d pn => pss_one (ps_set (i := 1) sc_law_word.nd rfl (.inl rfl) pe_str rfl (.inr rfl)))
    (.take (ts := tsW "reply") ⟨rfl, by decide, .inl (T.gx 7 (by decide))⟩ (fun a o cls d pn => pss_one (ps_set (i := 1) sc_law_word.nd rfl (.inl rfl) pe_str rfl (.inr rfl)))
    (.take (ts := tsW "text") ⟨rfl, by decide, .inl (T.gx 8 (by decide))⟩ (fun a o cls d pn => pss_one (ps_set (i := 1) sc_law_word.nd rfl (.inl rfl) pe_str rfl (.inr rfl)))
    (.take (ts := tsW "unlike") ⟨rfl, by decide, .inl (T.gx 9 (by decide))⟩ (fun a o cls d pn => pss_one (ps_set (i := 1) sc_law_word.nd rfl (.inl rfl) pe_str rfl (.inr rfl)))
    (.take (ts := tsW "over") ⟨rfl, by decide, .inl (T.gx 10 (by decide))⟩ (fun a o cls d pn => pss_one (ps_set (i := 1) sc_law_word.nd rfl (.inl rfl) pe_str rfl (.inr rfl)))
    (.take (ts := tsW "undo") ⟨rfl, by decide, .inl (T.gx 11 (by decide))⟩ (fun a o cls d pn => pss_one (ps_set (i := 1) sc_law_word.nd rfl (.inl rfl) pe_str rfl (.inr rfl)))
    (.skip ⟨rfl, by decide, .inl (T.gx 12 (by decide))⟩ (.take (ts := tsW "base") ⟨rfl, by decide, .inl (T.gx 13 (by decide))⟩ (fun a o cls d pn => pss_one (ps_set (i := 1) sc_law_word.nd rfl (.inl rfl) pe_str rfl (.inr rfl)))
    .nil)))))))))))))))
theorem tf_law_refused : (("_law_refused", none) : He.Defn) ∈ tfs := by simp [tfs]
theorem tm_law_refused {K : PySem.W.Frag} : ((He.cT K ("_law_refused", none)).2, lamQ "_law_refused" (defScope s_law_refused)) ∈ tabs K := by simp [tabs]
theorem tu_law_refused {K : PySem.W.Frag} {mg : Str → Option Value} {fd : F → FuncData} {fdw : FuncData} (T : Tx K mg fd fdw) : ∀ p ∈ tabs K, p.1 = (He.cT K ("_law_refused", none)).2 → p.2 = lamQ "_law_refused" (defScope s_law_refused) := by
  intro p hp _
  simp [tabs] at hp
  rw [hp]
section
variable {P : Program} {w : World} {K : PySem.W.Frag} {mg : Str → Option Value} {base : Heap} {fd : F → FuncData} {fdw : FuncData} {n : Nat} (T : Tx K mg fd fdw)
  (A : ∀ j, FnOk P w K mg base (L2.CX P w) (3 * n) (He.fAd K (nm j, none)) (fd j) (ps j) (spOf (zOf K P w) (ar j) (run n j)))
  (TB : ∀ p ∈ tfs, LamX.TabB base mg (He.cT K p).1 (He.cT K p).2)
include T A TB
theorem d_is_int : FnOk P w K mg base (L2.CX P w) (3 * n + 2 + 1) (He.fAd K (nm .is_int, none)) (fd .is_int) (ps .is_int) (spOf (zOf K P w) (ar .is_int) (runB (b_is_int (run n)) 3)) :=
  fn3D (T.fn .is_int) sc_is_int rfl rfl fun cdv A0 outer s H E hc hr =>
  (pss3_one (ps3_ret (pe3_and (pe3_isB .tint rfl rfl T.n_isinstance rfl T.n_int bt_int (pe3_var 0) bt_isinstance) (pe3_and (pe3_not (pe3_isB .tbool rfl rfl T.n_isinstance rfl T.n_bool bt_bool (pe3_var 0) bt_isinstance)) (pe3_one (pe3_chain o_le o_le (pe3_var 1) (pe3_var 0) (pe3_var 2)))))))
theorem d_rules_so : FnOk P w K mg base (L2.CX P w) (3 * n + 2 + 1) (He.fAd K (nm .rules_so, none)) (fd .rules_so) (ps .rules_so) (spOf (zOf K P w) (ar .rules_so) (runB (b_rules_so (run n)) 2)) :=
  fn3D (T.fn .rules_so) sc_rules_so rfl rfl fun cdv A0 outer s H E hc hr =>
  (pss3_cons (ps3_if (PW.pt (pw3_or (pt3_not (pt3_val (pe3_isB .ttuple rfl rfl T.n_isinstance rfl T.n_tuple bt_tuple (pe3_var 0) bt_isinstance))) (pw3_or1 (pt3_cmp (o_ne rfl (u64 hr)) (pe3_bi (c_len rfl) rfl T.n_len bt_len (pa3_cons (pe3_var 0) pa3_nil)) pe3_int)))) (pss3_one (ps3_ret pe3_bl)) pss3_nil)
  (pss3_cons (ps3_if (PW.pt (pw3_or (pt3_not (pt3_val (pe3_call (A .is_int) (hr.mono (by omega)) rfl (T.mgF .is_int) (T.fn .is_int).kp (T.bd .is_int) (takes_of rfl rfl rfl rfl) (pa3_cons (pe3_ix (o_ix rfl) (pe3_var 0) pe3_int) (pa3_cons pe3_int (pa3_cons (pe3_globI rfl T.c_MOST_CHANGES) pa3_nil))) rfl (lenA_cons (lenA_cons (lenA_cons lenA_nil)))))) (pw3_or1 (pt3_not (pt3_val (pe3_call (A .is_int) (hr.mono (by omega)) rfl (T.mgF .is_int) (T.fn .is_int).kp (T.bd .is_int) (takes_of rfl rfl rfl rfl) (pa3_cons (pe3_ix (o_ix rfl) (pe3_var 0) pe3_int) (pa3_cons pe3_int (pa3_cons (pe3_globI rfl T.c_MOST_WINDOWS) pa3_nil))) rfl (lenA_cons (lenA_cons (lenA_cons lenA_nil))))))))) (pss3_one (ps3_ret pe3_bl)) pss3_nil)
  (pss3_cons (ps3_if (PW.pt (pw3_or (pt3_not (pt3_val (pe3_isB .ttuple rfl rfl T.n_isinstance rfl T.n_tuple bt_tuple (pe3_ix (o_ix rfl) (pe3_var 0) pe3_int) bt_isinstance))) (pw3_or (pt3_cmp o_gt (pe3_bi (c_len rfl) rfl T.n_len bt_len (pa3_cons (pe3_ix (o_ix rfl) (pe3_var 0) pe3_int) pa3_nil)) (pe3_globI rfl T.c_MOST_PAUSES)) (pw3_or1 (pt3_not (pt3_val (pe3_call (A .is_int) (hr.mono (by omega)) rfl (T.mgF .is_int) (T.fn .is_int).kp (T.bd .is_int) (takes_of rfl rfl rfl rfl) (pa3_cons (pe3_ix (o_ix rfl) (pe3_var 0) pe3_int) (pa3_cons pe3_int (pa3_cons (pe3_globI rfl T.c_MOST_KNOCKS) pa3_nil))) rfl (lenA_cons (lenA_cons (lenA_cons lenA_nil)))))))))) (pss3_one (ps3_ret pe3_bl)) pss3_nil)
  (pss3_cons (ps3_if (pt3_cmp (o_ne rfl (u64 hr)) (pe3_lc (own := [("stop", 1)]) (t := (.one 1)) rfl rfl sc_rules_so.nd (pi3_seq rfl (pe3_ix (o_ix rfl) (pe3_var 0) pe3_int)) (blkOk_by (own := [("stop", 1)]) (N := N_rules_so) (sc := defScope s_rules_so) (by decide +kernel)) (slots_ok (n := 2) (by decide)) (by decide) (fun _ _ _ _ _ => (pg3_one sc_rules_so.nd rfl (Or.inl rfl))) (fun _ _ _ _ _ => (pts3_one (pt3_not (pt3_val (pe3_call (A .is_int) (hr.mono (by omega)) rfl (T.mgF .is_int) (T.fn .is_int).kp (T.bd .is_int) takes0 (pa3_cons (pe3_var 1) (pa3_cons pe3_int (pa3_cons (pe3_globI rfl T.c_LAST_PAUSE) pa3_nil))) rfl (lenA_cons (lenA_cons (lenA_cons lenA_nil)))))))) (fun _ _ _ _ _ => (pe3_var 1))) (pe3_lst pa3_nil)) (pss3_one (ps3_ret pe3_bl)) pss3_nil)
  (pss3_one (ps3_ret (pe3_cmp (o_eq rfl (u64 hr)) (pe3_ty (c_list rfl) rfl T.n_list bt_list (pa3_cons (pe3_ix (o_ix rfl) (pe3_var 0) pe3_int) pa3_nil)) (pe3_bi (c_sorted rfl rfl) rfl T.n_sorted bt_sorted (pa3_cons (pe3_ty (c_set rfl rfl) rfl T.n_set bt_set (pa3_cons (pe3_ix (o_ix rfl) (pe3_var 0) pe3_int) pa3_nil)) pa3_nil)))))))))
theorem d_need_rule : FnOk P w K mg base (L2.CX P w) (3 * n + 2 + 1) (He.fAd K (nm .need_rule, none)) (fd .need_rule) (ps .need_rule) (spOf (zOf K P w) (ar .need_rule) (runB (b_need_rule (run n)) 1)) :=
  fn3D (T.fn .need_rule) sc_need_rule rfl rfl fun cdv A0 outer s H E hc hr =>
  (pss3_one (ps3_if (pt3_not (pt3_val (pe3_call (A .rules_so) (hr.mono (by omega)) rfl (T.mgF .rules_so) (T.fn .rules_so).kp (T.bd .rules_so) (takes_of rfl rfl rfl rfl) (pa3_cons (pe3_var 0) pa3_nil) rfl (lenA_cons lenA_nil)))) (pss3_one (ps3_raise (cI := 0) rfl (takes_of rfl rfl rfl rfl) PySem.F.excBase_ValueError (T.ex 0 (by decide)).1 (T.gx 0 (by decide)) (T.ex 0 (by decide)).2.1 (raises_own (T.ex 0 (by decide)).2.2.1 (T.ex 0 (by decide)).2.2.2) rfl rfl)) pss3_nil))
theorem d_need_number : FnOk P w K mg base (L2.CX P w) (3 * n + 2 + 1) (He.fAd K (nm .need_number, none)) (fd .need_number) (ps .need_number) (spOf (zOf K P w) (ar .need_number) (runB (b_need_number (run n)) 3)) :=
  fn3D (T.fn .need_number) sc_need_number rfl rfl fun cdv A0 outer s H E hc hr =>
  (pss3_one (ps3_if (pt3_not (pt3_val (pe3_call (A .is_int) (hr.mono (by omega)) rfl (T.mgF .is_int) (T.fn .is_int).kp (T.bd .is_int) (takes_of rfl rfl rfl rfl) (pa3_cons (pe3_var 0) (pa3_cons (pe3_var 1) (pa3_cons (pe3_var 2) pa3_nil))) rfl (lenA_cons (lenA_cons (lenA_cons lenA_nil)))))) (pss3_one (ps3_raise (cI := 2) rfl (takes_of rfl rfl rfl rfl) PySem.F.excBase_ValueError (T.ex 2 (by decide)).1 (T.gx 2 (by decide)) (T.ex 2 (by decide)).2.1 (raises_own (T.ex 2 (by decide)).2.2.1 (T.ex 2 (by decide)).2.2.2) rfl rfl)) pss3_nil))
theorem d_served : FnOk P w K mg base (L2.CX P w) (3 * n + 2 + 1) (He.fAd K (nm .served, none)) (fd .served) (ps .served) (spOf (zOf K P w) (ar .served) (runB (b_served (run n)) 9)) :=
  fn3D (T.fn .served) sc_served rfl rfl fun cdv A0 outer s H E hc hr =>
  (pss3_cons (ps3_asg (t := (.tup [3, 4, 5, 6])) rfl (pe3_var 0) (pg_tup rfl (pgs3_cons sc_served.nd rfl (Or.inl rfl) (pgs3_cons sc_served.nd rfl (Or.inl rfl) (pgs3_cons sc_served.nd rfl (Or.inl rfl) (pgs3_cons sc_served.nd rfl (Or.inl rfl) pgs3_nil))))) (slots_ok (n := 9) (by decide)))
  (pss3_cons (ps3_set (i := 7) sc_served.nd rfl (Or.inl rfl) (pe3_bi (c_min rfl rfl) rfl T.n_min bt_min (pa3_cons (pe3_var 6) (pa3_cons (pe3_var 2) pa3_nil))))
  (pss3_cons (ps3_set (i := 8) sc_served.nd rfl (Or.inl rfl) (pe3_bin o_sub (pe3_var 2) (pe3_var 7)))
  (pss3_cons (ps3_if (PW.pt (pw3_or (pt3_cmp o_gt (pe3_bin (o_add rfl) (pe3_var 1) (pe3_var 2)) (pe3_var 3)) (pw3_or1 (pt3_cmp o_gt (pe3_var 8) (pe3_var 5))))) (pss3_one (ps3_ret pe3_bl)) pss3_nil)
  (pss3_one (ps3_ret (pe3_cmp o_le (pe3_bin (o_add rfl) (pe3_var 8) (pe3_bi (c_max rfl rfl) rfl T.n_max bt_max (pa3_cons pe3_int (pa3_cons (pe3_bin o_sub (pe3_var 1) (pe3_bin o_sub (pe3_var 6) (pe3_var 7))) pa3_nil)))) (pe3_var 4))))))))
theorem d_is_caught : FnOk P w K mg base (L2.CX P w) (3 * n + 2 + 1) (He.fAd K (nm .is_caught, none)) (fd .is_caught) (ps .is_caught) (spOf (zOf K P w) (ar .is_caught) (runB (b_is_caught (run n)) 6)) :=
  fn3D (T.fn .is_caught) sc_is_caught rfl rfl fun cdv A0 outer s H E hc hr =>
  (pss3_cons (ps3_for (t := (.one 4)) rfl (passes_of rfl) rfl (pi3_rg1 rfl T.n_range (pe3_bin (o_add rfl) (pe3_bi (c_min rfl rfl) rfl T.n_min bt_min (pa3_cons (pe3_var 1) (pa3_cons (pe3_var 3) pa3_nil))) pe3_int)) (pg3_one sc_is_caught.nd rfl (Or.inl rfl)) (slots_ok (n := 6) (by decide)) (pss3_one (ps3_for (t := (.one 5)) rfl (passes_of rfl) rfl (pi3_rg1 rfl T.n_range (pe3_bin (o_add rfl) (pe3_bi (c_min rfl rfl) rfl T.n_min bt_min (pa3_cons (pe3_var 2) (pa3_cons (pe3_bin o_sub (pe3_var 3) (pe3_var 4)) pa3_nil))) pe3_int)) (pg3_one sc_is_caught.nd rfl (Or.inl rfl)) (slots_ok (n := 6) (by decide)) (pss3_one (ps3_if (pt3_not (pt3_val (pe3_call (A .served) (hr.mono (by omega)) rfl (T.mgF .served) (T.fn .served).kp (T.bd .served) (takes_of rfl rfl rfl rfl) (pa3_cons (pe3_var 0) (pa3_cons (pe3_var 4) (pa3_cons (pe3_var 5) pa3_nil))) rfl (lenA_cons (lenA_cons (lenA_cons lenA_nil)))))) (pss3_one (ps3_ret pe3_bl)) pss3_nil)))))
  (pss3_one (ps3_ret pe3_bl)))
theorem d_stops_of : FnOk P w K mg base (L2.CX P w) (3 * n + 2 + 1) (He.fAd K (nm .stops_of, none)) (fd .stops_of) (ps .stops_of) (spOf (zOf K P w) (ar .stops_of) (runB (b_stops_of (run n)) 4)) :=
  fn3D (T.fn .stops_of) sc_stops_of rfl rfl fun cdv A0 outer s H E hc hr =>
  (pss3_cons (ps3_set (i := 2) sc_stops_of.nd rfl (Or.inl rfl) (pe3_bi (c_len rfl) rfl T.n_len bt_len (pa3_cons (pe3_lc (own := [("stop", 3)]) (t := (.one 3)) rfl rfl sc_stops_of.nd (pi3_seq rfl (pe3_ix (o_ix rfl) (pe3_var 0) pe3_int)) (blkOk_by (own := [("stop", 3)]) (N := N_stops_of) (sc := defScope s_stops_of) (by decide +kernel)) (slots_ok (n := 4) (by decide)) (by decide) (fun _ _ _ _ _ => (pg3_one sc_stops_of.nd rfl (Or.inl rfl))) (fun _ _ _ _ _ => (pts3_one (pt3_cmp (o_lt rfl (u64 hr)) (pe3_var 3) (pe3_var 1)))) (fun _ _ _ _ _ => (pe3_var 3))) pa3_nil)))
  (pss3_one (ps3_ret (pe3_tup (pa3_cons (pe3_var 2) (pa3_cons (pe3_bin o_sub (pe3_bin o_sub (pe3_var 1) pe3_int) (pe3_var 2)) pa3_nil))))))
theorem d_caught_so : FnOk P w K mg base (L2.CX P w) (3 * n + 2 + 1) (He.fAd K (nm .caught_so, none)) (fd .caught_so) (ps .caught_so) (spOf (zOf K P w) (ar .caught_so) (runB (b_caught_so (run n)) 6)) :=
  fn3D (T.fn .caught_so) sc_caught_so rfl rfl fun cdv A0 outer s H E hc hr =>
  (pss3_cons (ps3_asg (t := (.tup [4, 5])) rfl (pe3_call (A .stops_of) (hr.mono (by omega)) rfl (T.mgF .stops_of) (T.fn .stops_of).kp (T.bd .stops_of) (takes_of rfl rfl rfl rfl) (pa3_cons (pe3_var 0) (pa3_cons (pe3_var 1) pa3_nil)) rfl (lenA_cons (lenA_cons lenA_nil))) (pg_tup rfl (pgs3_cons sc_caught_so.nd rfl (Or.inl rfl) (pgs3_cons sc_caught_so.nd rfl (Or.inl rfl) pgs3_nil))) (slots_ok (n := 6) (by decide)))
  (pss3_one (ps3_ret (pe3_call (A .is_caught) (hr.mono (by omega)) rfl (T.mgF .is_caught) (T.fn .is_caught).kp (T.bd .is_caught) (takes_of rfl rfl rfl rfl) (pa3_cons (pe3_tup (pa3_cons (pe3_var 2) (pa3_cons (pe3_ix (o_ix rfl) (pe3_var 0) pe3_int) (pa3_cons (pe3_ix (o_ix rfl) (pe3_var 0) pe3_int) (pa3_cons (pe3_ix (o_ix rfl) (pe3_var 0) pe3_int) pa3_nil))))) (pa3_cons (pe3_var 4) (pa3_cons (pe3_var 5) (pa3_cons (pe3_var 3) pa3_nil)))) rfl (lenA_cons (lenA_cons (lenA_cons (lenA_cons lenA_nil))))))))
theorem d_need_all : FnOk P w K mg base (L2.CX P w) (3 * n + 2 + 1) (He.fAd K (nm .need_all, none)) (fd .need_all) (ps .need_all) (spOf (zOf K P w) (ar .need_all) (runB (b_need_all (run n)) 2)) :=
  fn3D (T.fn .need_all) sc_need_all rfl rfl fun cdv A0 outer s H E hc hr =>
  (pss3_cons (ps3_exp (pe3_call (A .need_rule) (hr.mono (by omega)) rfl (T.mgF .need_rule) (T.fn .need_rule).kp (T.bd .need_rule) (takes_of rfl rfl rfl rfl) (pa3_cons (pe3_var 0) pa3_nil) rfl (lenA_cons lenA_nil)))
  (pss3_one (ps3_exp (pe3_call (A .need_number) (hr.mono (by omega)) rfl (T.mgF .need_number) (T.fn .need_number).kp (T.bd .need_number) (takes_of rfl rfl rfl rfl) (pa3_cons (pe3_var 1) (pa3_cons pe3_int (pa3_cons (pe3_globI rfl T.c_GREAT) pa3_nil))) rfl (lenA_cons (lenA_cons (lenA_cons lenA_nil)))))))
theorem d_caught : FnOk P w K mg base (L2.CX P w) (3 * n + 2 + 1) (He.fAd K (nm .caught, none)) (fd .caught) (ps .caught) (spOf (zOf K P w) (ar .caught) (runB (b_caught (run n)) 4)) :=
  fn3D (T.fn .caught) sc_caught rfl rfl fun cdv A0 outer s H E hc hr =>
  (pss3_cons (ps3_exp (pe3_call (A .need_all) (hr.mono (by omega)) rfl (T.mgF .need_all) (T.fn .need_all).kp (T.bd .need_all) (takes_of rfl rfl rfl rfl) (pa3_cons (pe3_var 0) (pa3_cons (pe3_var 1) pa3_nil)) rfl (lenA_cons (lenA_cons lenA_nil))))
  (pss3_cons (ps3_exp (pe3_call (A .need_number) (hr.mono (by omega)) rfl (T.mgF .need_number) (T.fn .need_number).kp (T.bd .need_number) (takes_of rfl rfl rfl rfl) (pa3_cons (pe3_var 2) (pa3_cons pe3_int (pa3_cons (pe3_globI rfl T.c_MOST_BENCH) pa3_nil))) rfl (lenA_cons (lenA_cons (lenA_cons lenA_nil)))))
  (pss3_cons (ps3_exp (pe3_call (A .need_number) (hr.mono (by omega)) rfl (T.mgF .need_number) (T.fn .need_number).kp (T.bd .need_number) (takes_of rfl rfl rfl rfl) (pa3_cons (pe3_var 3) (pa3_cons pe3_int (pa3_cons (pe3_globI rfl T.c_MOST_BENCH) pa3_nil))) rfl (lenA_cons (lenA_cons (lenA_cons lenA_nil)))))
  (pss3_one (ps3_ret (pe3_call (A .caught_so) (hr.mono (by omega)) rfl (T.mgF .caught_so) (T.fn .caught_so).kp (T.bd .caught_so) (takes_of rfl rfl rfl rfl) (pa3_cons (pe3_var 0) (pa3_cons (pe3_var 1) (pa3_cons (pe3_var 2) (pa3_cons (pe3_var 3) pa3_nil)))) rfl (lenA_cons (lenA_cons (lenA_cons (lenA_cons lenA_nil))))))))))
theorem d_most_hurts : FnOk P w K mg base (L2.CX P w) (3 * n + 2 + 1) (He.fAd K (nm .most_hurts, none)) (fd .most_hurts) (ps .most_hurts) (spOf (zOf K P w) (ar .most_hurts) (runB (b_most_hurts (run n)) 4)) :=
  fn3D (T.fn .most_hurts) sc_most_hurts rfl rfl fun cdv A0 outer s H E hc hr =>
  (pss3_cons (ps3_exp (pe3_call (A .need_all) (hr.mono (by omega)) rfl (T.mgF .need_all) (T.fn .need_all).kp (T.bd .need_all) (takes_of rfl rfl rfl rfl) (pa3_cons (pe3_var 0) (pa3_cons (pe3_var 1) pa3_nil)) rfl (lenA_cons (lenA_cons lenA_nil))))
  (pss3_cons (ps3_exp (pe3_call (A .need_number) (hr.mono (by omega)) rfl (T.mgF .need_number) (T.fn .need_number).kp (T.bd .need_number) (takes_of rfl rfl rfl rfl) (pa3_cons (pe3_var 2) (pa3_cons pe3_int (pa3_cons (pe3_globI rfl T.c_MOST_BENCH) pa3_nil))) rfl (lenA_cons (lenA_cons (lenA_cons lenA_nil)))))
  (pss3_cons (ps3_for (t := (.one 3)) rfl (passes_of rfl) rfl (pi3_rg2 rfl T.n_range pe3_int (pe3_bin (o_add rfl) (pe3_globI rfl T.c_MOST_BENCH) pe3_int)) (pg3_one sc_most_hurts.nd rfl (Or.inl rfl)) (slots_ok (n := 4) (by decide)) (pss3_one (ps3_if (pt3_val (pe3_call (A .caught_so) (hr.mono (by omega)) rfl (T.mgF .caught_so) (T.fn .caught_so).kp (T.bd .caught_so) (takes_of rfl rfl rfl rfl) (pa3_cons (pe3_var 0) (pa3_cons (pe3_var 1) (pa3_cons (pe3_var 2) (pa3_cons (pe3_var 3) pa3_nil)))) rfl (lenA_cons (lenA_cons (lenA_cons (lenA_cons lenA_nil)))))) (pss3_one (ps3_ret (pe3_bin o_sub (pe3_var 3) pe3_int))) pss3_nil)))
  (pss3_one (ps3_ret pe3_non)))))
theorem d_least_bench : FnOk P w K mg base (L2.CX P w) (3 * n + 2 + 1) (He.fAd K (nm .least_bench, none)) (fd .least_bench) (ps .least_bench) (spOf (zOf K P w) (ar .least_bench) (runB (b_least_bench (run n)) 3)) :=
  fn3D (T.fn .least_bench) sc_least_bench rfl rfl fun cdv A0 outer s H E hc hr =>
  (pss3_cons (ps3_exp (pe3_call (A .need_all) (hr.mono (by omega)) rfl (T.mgF .need_all) (T.fn .need_all).kp (T.bd .need_all) (takes_of rfl rfl rfl rfl) (pa3_cons (pe3_var 0) (pa3_cons (pe3_var 1) pa3_nil)) rfl (lenA_cons (lenA_cons lenA_nil))))
  (pss3_cons (ps3_exp (pe3_call (A .need_number) (hr.mono (by omega)) rfl (T.mgF .need_number) (T.fn .need_number).kp (T.bd .need_number) (takes_of rfl rfl rfl rfl) (pa3_cons (pe3_var 2) (pa3_cons pe3_int (pa3_cons (pe3_globI rfl T.c_MOST_BENCH) pa3_nil))) rfl (lenA_cons (lenA_cons (lenA_cons lenA_nil)))))
  (pss3_one (ps3_ret (pe3_call (A .hurts_least) (hr.mono (by omega)) rfl (T.mgF .hurts_least) (T.fn .hurts_least).kp (T.bd .hurts_least) (takes_of rfl rfl rfl rfl) (pa3_cons (pe3_var 0) (pa3_cons (pe3_var 1) (pa3_cons (pe3_var 2) pa3_nil))) rfl (lenA_cons (lenA_cons (lenA_cons lenA_nil))))))))
theorem d_hurts_least : FnOk P w K mg base (L2.CX P w) (3 * n + 2 + 1) (He.fAd K (nm .hurts_least, none)) (fd .hurts_least) (ps .hurts_least) (spOf (zOf K P w) (ar .hurts_least) (runB (b_hurts_least (run n)) 5)) :=
  fn3D (T.fn .hurts_least) sc_hurts_least rfl rfl fun cdv A0 outer s H E hc hr =>
  (pss3_cons (ps3_setLc (i := 3) (own := [("bench", 4)]) (t := (.one 4)) rfl rfl sc_hurts_least.nd rfl rfl (sw_true rfl rfl rfl (by decide +kernel)) (pi3_rg1 rfl T.n_range (pe3_bin (o_add rfl) (pe3_globI rfl T.c_MOST_BENCH) pe3_int)) (blkOk_by (own := [("bench", 4)]) (N := N_hurts_least) (sc := defScope s_hurts_least) (by decide +kernel)) (slots_ok (n := 5) (by decide)) (by decide) (fun _ _ _ _ _ => (pg3_one sc_hurts_least.nd rfl (Or.inl rfl))) (fun _ _ _ _ _ => (pts3_one (pt3_not (pt3_val (pe3_call (A .caught_so) (hr.mono (by omega)) rfl (T.mgF .caught_so) (T.fn .caught_so).kp (T.bd .caught_so) takes0 (pa3_cons (pe3_var 0) (pa3_cons (pe3_var 1) (pa3_cons (pe3_var 4) (pa3_cons (pe3_var 2) pa3_nil)))) rfl (lenA_cons (lenA_cons (lenA_cons (lenA_cons lenA_nil))))))))) (fun _ _ _ _ _ => (pe3_var 4)))
  (pss3_one (ps3_ret (pe3_if (pt3_cmp (o_ne rfl (u64 hr)) (pe3_var 3) (pe3_lst pa3_nil)) (pe3_ix (o_ix rfl) (pe3_var 3) pe3_int) pe3_non))))
theorem d_mends : FnOk P w K mg base (L2.CX P w) (3 * n + 2 + 1) (He.fAd K (nm .mends, none)) (fd .mends) (ps .mends) (spOf (zOf K P w) (ar .mends) (runB (b_mends (run n)) 10)) :=
  fn3D (T.fn .mends) sc_mends rfl rfl fun cdv A0 outer s H E hc hr =>
  (pss3_cons (ps3_exp (pe3_call (A .need_all) (hr.mono (by omega)) rfl (T.mgF .need_all) (T.fn .need_all).kp (T.bd .need_all) (takes_of rfl rfl rfl rfl) (pa3_cons (pe3_var 0) (pa3_cons (pe3_var 1) pa3_nil)) rfl (lenA_cons (lenA_cons lenA_nil))))
  (pss3_cons (ps3_exp (pe3_call (A .need_number) (hr.mono (by omega)) rfl (T.mgF .need_number) (T.fn .need_number).kp (T.bd .need_number) (takes_of rfl rfl rfl rfl) (pa3_cons (pe3_var 2) (pa3_cons pe3_int (pa3_cons (pe3_globI rfl T.c_MOST_BENCH) pa3_nil))) rfl (lenA_cons (lenA_cons (lenA_cons lenA_nil)))))
  (pss3_cons (ps3_exp (pe3_call (A .need_number) (hr.mono (by omega)) rfl (T.mgF .need_number) (T.fn .need_number).kp (T.bd .need_number) (takes_of rfl rfl rfl rfl) (pa3_cons (pe3_var 3) (pa3_cons pe3_int (pa3_cons (pe3_globI rfl T.c_MOST_BENCH) pa3_nil))) rfl (lenA_cons (lenA_cons (lenA_cons lenA_nil)))))
  (pss3_cons (ps3_asg (t := (.tup [4, 5])) rfl (pe3_call (A .stops_of) (hr.mono (by omega)) rfl (T.mgF .stops_of) (T.fn .stops_of).kp (T.bd .stops_of) (takes_of rfl rfl rfl rfl) (pa3_cons (pe3_var 0) (pa3_cons (pe3_var 1) pa3_nil)) rfl (lenA_cons (lenA_cons lenA_nil))) (pg_tup rfl (pgs3_cons sc_mends.nd rfl (Or.inl rfl) (pgs3_cons sc_mends.nd rfl (Or.inl rfl) pgs3_nil))) (slots_ok (n := 10) (by decide)))
  (pss3_cons (ps3_set (i := 6) sc_mends.nd rfl (Or.inl rfl) (pe3_lst pa3_nil))
  (pss3_cons (ps3_for (t := (.one 7)) rfl (passes_of rfl) rfl (pi3_seq rfl (pe3_globT rfl rfl T.c_WORDS.1 T.c_WORDS.2)) (pg3_one sc_mends.nd rfl (Or.inl rfl)) (slots_ok (n := 10) (by decide)) (pss3_one (ps3_for (t := (.one 8)) rfl (passes_of rfl) rfl (pi3_rg1 rfl T.n_range (pe3_bin (o_add rfl) (pe3_globI rfl T.c_MOST_BENCH) pe3_int)) (pg3_one sc_mends.nd rfl (Or.inl rfl)) (slots_ok (n := 10) (by decide)) (pss3_cons (ps3_set (i := 9) sc_mends.nd rfl (Or.inl rfl) (pe3_tup (pa3_cons (pe3_bin (o_add rfl) (pe3_var 2) (pe3_bin (o_mul rfl) (pe3_var 8) (pe3_ty (c_int) rfl T.n_int bt_int (pa3_cons (pe3_cmp (o_eq rfl (u64 hr)) (pe3_var 7) pe3_str) pa3_nil)))) (pa3_cons (pe3_bin (o_add rfl) (pe3_ix (o_ix rfl) (pe3_var 0) pe3_int) (pe3_bin (o_mul rfl) (pe3_var 8) (pe3_ty (c_int) rfl T.n_int bt_int (pa3_cons (pe3_cmp (o_eq rfl (u64 hr)) (pe3_var 7) pe3_str) pa3_nil)))) (pa3_cons (pe3_bin (o_add rfl) (pe3_ix (o_ix rfl) (pe3_var 0) pe3_int) (pe3_bin (o_mul rfl) (pe3_var 8) (pe3_ty (c_int) rfl T.n_int bt_int (pa3_cons (pe3_cmp (o_eq rfl (u64 hr)) (pe3_var 7) pe3_str) pa3_nil)))) (pa3_cons (pe3_bin (o_add rfl) (pe3_ix (o_ix rfl) (pe3_var 0) pe3_int) (pe3_bin (o_mul rfl) (pe3_var 8) (pe3_ty (c_int) rfl T.n_int bt_int (pa3_cons (pe3_cmp (o_eq rfl (u64 hr)) (pe3_var 7) pe3_str) pa3_nil)))) pa3_nil))))))
  (pss3_one (ps3_if (PW.pt (pw3_and (PW.pt (pw3_or (pt3_cmp (o_eq rfl (u64 hr)) (pe3_var 6) (pe3_lst pa3_nil)) (pw3_or1 (pt3_cmp (o_ne rfl (u64 hr)) (pe3_ix (o_ix rfl) (pe3_ix (o_ix rfl) (pe3_var 6) (pe3_un o_neg pe3_int)) pe3_int) (pe3_var 7))))) (pw3_and1 (pt3_not (pt3_val (pe3_call (A .is_caught) (hr.mono (by omega)) rfl (T.mgF .is_caught) (T.fn .is_caught).kp (T.bd .is_caught) (takes_of rfl rfl rfl rfl) (pa3_cons (pe3_var 9) (pa3_cons (pe3_var 4) (pa3_cons (pe3_var 5) (pa3_cons (pe3_var 3) pa3_nil)))) rfl (lenA_cons (lenA_cons (lenA_cons (lenA_cons lenA_nil)))))))))) (pss3_one (ps3_exp (pe3_app rfl (pe3_var 6) (pe3_tup (pa3_cons (pe3_var 7) (pa3_cons (pe3_var 8) pa3_nil)))))) pss3_nil))))))
  (pss3_one (ps3_ret (pe3_var 6)))))))))
theorem d_law_flask_of : FnOk P w K mg base (L2.CX P w) (3 * n + 2 + 1) (He.fAd K (nm .law_flask_of, none)) (fd .law_flask_of) (ps .law_flask_of) (spOf (zOf K P w) (ar .law_flask_of) (runB (b_law_flask_of (run n)) 3)) :=
  fn3D (T.fn .law_flask_of) sc_law_flask_of rfl rfl fun cdv A0 outer s H E hc hr =>
  (pss3_cons (ps3_set (i := 2) sc_law_flask_of.nd rfl (Or.inl rfl) (pe3_bin (o_add rfl) (pe3_bin (o_mul rfl) pe3_int (pe3_var 1)) pe3_int))
  (pss3_cons (ps3_if (pt3_cmp (o_lt rfl (u64 hr)) (pe3_var 1) (pe3_bi (c_len rfl) rfl T.n_len bt_len (pa3_cons (pe3_var 0) pa3_nil))) (pss3_one (ps3_set (i := 2) sc_law_flask_of.nd rfl (Or.inl rfl) (pe3_bin o_mod (pe3_bi (c_abs) rfl T.n_abs bt_abs (pa3_cons (pe3_ty (c_int) rfl T.n_int bt_int (pa3_cons (pe3_ix (o_ix rfl) (pe3_var 0) (pe3_var 1)) pa3_nil)) pa3_nil)) (pe3_bin (o_mul rfl) (pe3_bin (o_mul rfl) (pe3_bin (o_mul rfl) (pe3_bin o_pow pe3_int pe3_int) (pe3_bin o_pow pe3_int pe3_int)) (pe3_bin o_pow pe3_int pe3_int)) (pe3_bin o_pow pe3_int pe3_int))))) (pss3_one (ps3_if (pt3_cmp o_gt (pe3_bi (c_len rfl) rfl T.n_len bt_len (pa3_cons (pe3_var 0) pa3_nil)) pe3_int) (pss3_one (ps3_set (i := 2) sc_law_flask_of.nd rfl (Or.inl rfl) (pe3_bin (o_add rfl) (pe3_var 2) (pe3_bin o_mod (pe3_bi (c_abs) rfl T.n_abs bt_abs (pa3_cons (pe3_ty (c_int) rfl T.n_int bt_int (pa3_cons (pe3_ix (o_ix rfl) (pe3_var 0) pe3_int) pa3_nil)) pa3_nil)) pe3_int)))) pss3_nil)))
  (pss3_one (ps3_ret (pe3_lst (pa3_cons (pe3_if (pt3_cmp o_ge (pe3_var 2) (pe3_bin o_pow pe3_int pe3_int)) (pe3_var 2) pe3_int) (pa3_cons (pe3_bin (o_add rfl) (pe3_bin o_mod (pe3_ty (c_int) rfl T.n_int bt_int (pa3_cons (pe3_bin (o_add rfl) (pe3_bin (o_add rfl) (pe3_bin (o_mul rfl) (pe3_bin o_mod (pe3_var 2) pe3_int) pe3_int) (pe3_bin (o_mul rfl) pe3_int (pe3_var 1))) pe3_int) pa3_nil)) pe3_int) pe3_int) pa3_nil)))))))
theorem d_law_sip : FnOk P w K mg base (L2.CX P w) (3 * n + 2 + 1) (He.fAd K (nm .law_sip, none)) (fd .law_sip) (ps .law_sip) (spOf (zOf K P w) (ar .law_sip) (runB (b_law_sip (run n)) 4)) :=
  fn3D (T.fn .law_sip) sc_law_sip rfl rfl fun cdv A0 outer s H E hc hr =>
  (pss3_cons (ps3_if (pt3_cmp o_gt (pe3_ix (o_ix rfl) (pe3_var 0) pe3_int) pe3_int) (pss3_cons (ps3_set (i := 2) sc_law_sip.nd rfl (Or.inl rfl) (pe3_bin o_mod (pe3_ty (c_int) rfl T.n_int bt_int (pa3_cons (pe3_ix (o_ix rfl) (pe3_var 0) pe3_int) pa3_nil)) (pe3_var 1)))
  (pss3_cons (ps3_setIx (pe3_bin o_div (pe3_ix (o_ix rfl) (pe3_var 0) pe3_int) (pe3_var 1)) (pg_sub (pe3_var 0) pe3_int (set_3 rfl)))
  (pss3_one (ps3_ret (pe3_var 2))))) pss3_nil)
  (pss3_cons (ps3_asg (t := (.tup [2, 3])) rfl (pe3_tup (pa3_cons pe3_int (pa3_cons pe3_int pa3_nil))) (pg_tup rfl (pgs3_cons sc_law_sip.nd rfl (Or.inl rfl) (pgs3_cons sc_law_sip.nd rfl (Or.inl rfl) pgs3_nil))) (slots_ok (n := 4) (by decide)))
  (pss3_cons (ps3_while 1000000 (passes_of rfl) (PW.pt (pw3_or (pt3_cmp (o_lt rfl (u64 hr)) (pe3_var 3) (pe3_var 1)) (pw3_or1 (pt3_cmp (o_eq rfl (u64 hr)) (pe3_var 3) pe3_int)))) (pss3_cons (ps3_setIx (pe3_bin o_mod (pe3_ty (c_int) rfl T.n_int bt_int (pa3_cons (pe3_bin (o_add rfl) (pe3_bin (o_mul rfl) (pe3_ix (o_ix rfl) (pe3_var 0) pe3_int) pe3_int) pe3_int) pa3_nil)) pe3_int) (pg_sub (pe3_var 0) pe3_int (set_3 rfl)))
  (pss3_cons (ps3_set (i := 2) sc_law_sip.nd rfl (Or.inl rfl) (pe3_bin (o_add rfl) (pe3_bin (o_mul rfl) (pe3_var 2) pe3_int) (pe3_bin o_mod (pe3_ty (c_int) rfl T.n_int bt_int (pa3_cons (pe3_bin o_div (pe3_ix (o_ix rfl) (pe3_var 0) pe3_int) pe3_int) pa3_nil)) pe3_int)))
  (pss3_one (ps3_set (i := 3) sc_law_sip.nd rfl (Or.inl rfl) (pe3_bin (o_mul rfl) (pe3_var 3) pe3_int))))))
  (pss3_one (ps3_ret (pe3_bin o_mod (pe3_ty (c_int) rfl T.n_int bt_int (pa3_cons (pe3_var 2) pa3_nil)) (pe3_var 1)))))))
theorem d_law_some : FnOk P w K mg base (L2.CX P w) (3 * n + 2 + 1) (He.fAd K (nm .law_some, none)) (fd .law_some) (ps .law_some) (spOf (zOf K P w) (ar .law_some) (runB (b_law_some (run n)) 2)) :=
  fn3D (T.fn .law_some) sc_law_some rfl rfl fun cdv A0 outer s H E hc hr =>
  (pss3_one (ps3_ret (pe3_ix (o_ix rfl) (pe3_var 1) (pe3_call (A .law_sip) (hr.mono (by omega)) rfl (T.mgF .law_sip) (T.fn .law_sip).kp (T.bd .law_sip) (takes_of rfl rfl rfl rfl) (pa3_cons (pe3_var 0) (pa3_cons (pe3_bi (c_len rfl) rfl T.n_len bt_len (pa3_cons (pe3_var 1) pa3_nil)) pa3_nil)) rfl (lenA_cons (lenA_cons lenA_nil))))))
theorem d_law_code : FnOk P w K mg base (L2.CX P w) (3 * n + 2 + 1) (He.fAd K (nm .law_code, none)) (fd .law_code) (ps .law_code) (spOf (zOf K P w) (ar .law_code) (runB (b_law_code (run n)) 2)) :=
  fn3D (T.fn .law_code) sc_law_code rfl rfl fun cdv A0 outer s H E hc hr =>
  (pss3_cons (ps3_set (i := 1) sc_law_code.nd rfl (Or.inl rfl) (pe3_call (A .law_some) (hr.mono (by omega)) rfl (T.mgF .law_some) (T.fn .law_some).kp (T.bd .law_some) (takes_of rfl rfl rfl rfl) (pa3_cons (pe3_var 0) (pa3_cons (pe3_lst (pa3_cons (pe3_tup pa3_nil) (pa3_cons (pe3_tup pa3_nil) (pa3_cons (pe3_tup (pa3_cons pe3_int pa3_nil)) (pa3_cons (pe3_tup (pa3_cons pe3_int pa3_nil)) (pa3_cons (pe3_tup (pa3_cons pe3_int pa3_nil)) (pa3_cons (pe3_tup (pa3_cons pe3_int (pa3_cons pe3_int pa3_nil))) (pa3_cons (pe3_tup (pa3_cons pe3_int (pa3_cons pe3_int pa3_nil))) (pa3_cons (pe3_tup (pa3_cons pe3_int (pa3_cons pe3_int pa3_nil))) pa3_nil))))))))) pa3_nil)) rfl (lenA_cons (lenA_cons lenA_nil))))
  (pss3_one (ps3_ret (pe3_tup (pa3_cons (pe3_call (A .law_sip) (hr.mono (by omega)) rfl (T.mgF .law_sip) (T.fn .law_sip).kp (T.bd .law_sip) (takes_of rfl rfl rfl rfl) (pa3_cons (pe3_var 0) (pa3_cons pe3_int pa3_nil)) rfl (lenA_cons (lenA_cons lenA_nil))) (pa3_cons (pe3_call (A .law_sip) (hr.mono (by omega)) rfl (T.mgF .law_sip) (T.fn .law_sip).kp (T.bd .law_sip) (takes_of rfl rfl rfl rfl) (pa3_cons (pe3_var 0) (pa3_cons pe3_int pa3_nil)) rfl (lenA_cons (lenA_cons lenA_nil))) (pa3_cons (pe3_var 1) (pa3_cons (pe3_call (A .law_sip) (hr.mono (by omega)) rfl (T.mgF .law_sip) (T.fn .law_sip).kp (T.bd .law_sip) (takes_of rfl rfl rfl rfl) (pa3_cons (pe3_var 0) (pa3_cons pe3_int pa3_nil)) rfl (lenA_cons (lenA_cons lenA_nil))) pa3_nil))))))))
theorem d_law_lost : FnOk P w K mg base (L2.CX P w) (3 * n + 2 + 1) (He.fAd K (nm .law_lost, none)) (fd .law_lost) (ps .law_lost) (spOf (zOf K P w) (ar .law_lost) (runB (b_law_lost (run n)) 15)) :=
  fn3D (T.fn .law_lost) sc_law_lost rfl rfl fun cdv A0 outer s H E hc hr =>
  (pss3_cons (ps3_if (pt3_cmp o_ge (pe3_var 2) (pe3_var 1)) (pss3_one (ps3_ret pe3_bl)) pss3_nil)
  (pss3_cons (ps3_set (i := 5) sc_law_lost.nd rfl (Or.inl rfl) (pe3_tup (pa3_cons (pe3_var 2) (pa3_cons (pe3_var 3) pa3_nil))))
  (pss3_cons (ps3_if (pt3_cmp (o_notInD rfl (u65 hr)) (pe3_var 5) (pe3_var 4)) (pss3_cons (ps3_asg (t := (.tup [6, 7, 8, 9, 10])) rfl (pe3_var 3) (pg_tup rfl (pgs3_cons sc_law_lost.nd rfl (Or.inl rfl) (pgs3_cons sc_law_lost.nd rfl (Or.inl rfl) (pgs3_cons sc_law_lost.nd rfl (Or.inl rfl) (pgs3_cons sc_law_lost.nd rfl (Or.inl rfl) (pgs3_cons sc_law_lost.nd rfl (Or.inl rfl) pgs3_nil)))))) (slots_ok (n := 15) (by decide)))
  (pss3_cons (ps3_set (i := 11) sc_law_lost.nd rfl (Or.inl rfl) (pe3_call (A .law_lost) (hr.mono (by omega)) rfl (T.mgF .law_lost) (T.fn .law_lost).kp (T.bd .law_lost) (takes_of rfl rfl rfl rfl) (pa3_cons (pe3_var 0) (pa3_cons (pe3_var 1) (pa3_cons (pe3_bin (o_add rfl) (pe3_var 2) pe3_int) (pa3_cons (pe3_var 3) (pa3_cons (pe3_var 4) pa3_nil))))) rfl (lenA_cons (lenA_cons (lenA_cons (lenA_cons (lenA_cons lenA_nil)))))))
  (pss3_cons (ps3_if (PW.pt (pw3_and (pt3_cmp o_gt (pe3_var 10) pe3_int) (pw3_and1 (pt3_not (pt3_val (pe3_var 11)))))) (pss3_cons (ps3_par rfl sc_law_lost.nd rfl rfl (by decide) rfl rfl (pe3_ty (c_int) rfl T.n_int bt_int (pa3_cons (pe3_cmp (o_notIn rfl (u65 hr)) (pe3_var 2) (pe3_ix (o_ix rfl) (pe3_var 0) pe3_int)) pa3_nil)) pe3_bl)
  (pss3_cons (ps3_if (PW.pt (pw3_and (pt3_cmp o_gt (pe3_var 6) pe3_int) (pw3_and1 (pt3_cmp o_gt (pe3_var 9) pe3_int)))) (pss3_cons (ps3_set (i := 14) sc_law_lost.nd rfl (Or.inl rfl) (pe3_tup (pa3_cons (pe3_bin o_sub (pe3_var 6) pe3_int) (pa3_cons (pe3_var 7) (pa3_cons (pe3_var 8) (pa3_cons (pe3_bin o_sub (pe3_var 9) pe3_int) (pa3_cons (pe3_bin o_sub (pe3_var 10) pe3_int) pa3_nil)))))))
  (pss3_one (ps3_set (i := 13) sc_law_lost.nd rfl (Or.inl rfl) (pe3_not (pe3_call (A .law_lost) (hr.mono (by omega)) rfl (T.mgF .law_lost) (T.fn .law_lost).kp (T.bd .law_lost) (takes_of rfl rfl rfl rfl) (pa3_cons (pe3_var 0) (pa3_cons (pe3_var 1) (pa3_cons (pe3_bin (o_add rfl) (pe3_var 2) pe3_int) (pa3_cons (pe3_var 14) (pa3_cons (pe3_var 4) pa3_nil))))) rfl (lenA_cons (lenA_cons (lenA_cons (lenA_cons (lenA_cons lenA_nil)))))))))) pss3_nil)
  (pss3_cons (ps3_if (PW.pt (pw3_and (pt3_cmp o_gt (pe3_var 6) pe3_int) (pw3_and (pt3_cmp o_gt (pe3_var 7) pe3_int) (pw3_and (pt3_cmp o_ge (pe3_var 8) (pe3_var 12)) (pw3_and1 (pt3_not (pt3_val (pe3_var 13)))))))) (pss3_cons (ps3_set (i := 14) sc_law_lost.nd rfl (Or.inl rfl) (pe3_tup (pa3_cons (pe3_bin o_sub (pe3_var 6) pe3_int) (pa3_cons (pe3_bin o_sub (pe3_var 7) pe3_int) (pa3_cons (pe3_bin o_sub (pe3_var 8) (pe3_var 12)) (pa3_cons (pe3_var 9) (pa3_cons (pe3_bin o_sub (pe3_var 10) pe3_int) pa3_nil)))))))
  (pss3_one (ps3_set (i := 13) sc_law_lost.nd rfl (Or.inl rfl) (pe3_not (pe3_call (A .law_lost) (hr.mono (by omega)) rfl (T.mgF .law_lost) (T.fn .law_lost).kp (T.bd .law_lost) (takes_of rfl rfl rfl rfl) (pa3_cons (pe3_var 0) (pa3_cons (pe3_var 1) (pa3_cons (pe3_bin (o_add rfl) (pe3_var 2) pe3_int) (pa3_cons (pe3_var 14) (pa3_cons (pe3_var 4) pa3_nil))))) rfl (lenA_cons (lenA_cons (lenA_cons (lenA_cons (lenA_cons lenA_nil)))))))))) pss3_nil)
  (pss3_one (ps3_set (i := 11) sc_law_lost.nd rfl (Or.inl rfl) (pe3_not (pe3_var 13))))))) pss3_nil)
  (pss3_one (ps3_setIx (pe3_var 11) (pg_sub (pe3_var 4) (pe3_var 5) (set_3D rfl (u65 hr)))))))) pss3_nil)
  (pss3_one (ps3_ret (pe3_ix (o_ixD rfl (u65 hr)) (pe3_var 4) (pe3_var 5)))))))
theorem d_law_mended : FnOk P w K mg base (L2.CX P w) (3 * n + 2 + 1) (He.fAd K (nm .law_mended, none)) (fd .law_mended) (ps .law_mended) (spOf (zOf K P w) (ar .law_mended) (runB (b_law_mended (run n)) 11)) :=
  fn3D (T.fn .law_mended) sc_law_mended rfl rfl fun cdv A0 outer s H E hc hr =>
  (pss3_cons (ps3_set (i := 4) sc_law_mended.nd rfl (Or.inl rfl) (pe3_lst pa3_nil))
  (pss3_cons (ps3_for (t := (.tup [5, 6])) rfl (passes_of rfl) rfl (pi3_enum rfl rfl T.n_enumerate (pe3_lst (pa3_cons pe3_str (pa3_cons pe3_str (pa3_cons pe3_str (pa3_cons pe3_str pa3_nil)))))) (pg_tup rfl (pgs3_cons sc_law_mended.nd rfl (Or.inl rfl) (pgs3_cons sc_law_mended.nd rfl (Or.inr rfl) pgs3_nil))) (slots_ok (n := 11) (by decide)) (pss3_one (ps3_for (t := (.one 7)) rfl (passes_of rfl) rfl (pi3_rg1 rfl T.n_range pe3_int) (pg3_one sc_law_mended.nd rfl (Or.inl rfl)) (slots_ok (n := 11) (by decide)) (pss3_cons (ps3_set (i := 8) sc_law_mended.nd rfl (Or.inl rfl) (pe3_tup (pa3_cons (pe3_bin (o_add rfl) (pe3_var 2) (pe3_bin (o_mul rfl) (pe3_var 7) (pe3_ty (c_int) rfl T.n_int bt_int (pa3_cons (pe3_cmp (o_eq rfl (u64 hr)) (pe3_var 5) pe3_int) pa3_nil)))) (pa3_cons (pe3_bin (o_add rfl) (pe3_ix (o_ix rfl) (pe3_var 0) pe3_int) (pe3_bin (o_mul rfl) (pe3_var 7) (pe3_ty (c_int) rfl T.n_int bt_int (pa3_cons (pe3_cmp (o_eq rfl (u64 hr)) (pe3_var 5) pe3_int) pa3_nil)))) pa3_nil))))
  (pss3_cons (ps3_set (i := 8) sc_law_mended.nd rfl (Or.inl rfl) (pe3_bin (o_add rfl) (pe3_var 8) (pe3_tup (pa3_cons (pe3_bin (o_add rfl) (pe3_ix (o_ix rfl) (pe3_var 0) pe3_int) (pe3_bin (o_mul rfl) (pe3_var 7) (pe3_ty (c_int) rfl T.n_int bt_int (pa3_cons (pe3_cmp (o_eq rfl (u64 hr)) (pe3_var 5) pe3_int) pa3_nil)))) pa3_nil))))
  (pss3_cons (ps3_set (i := 8) sc_law_mended.nd rfl (Or.inl rfl) (pe3_bin (o_add rfl) (pe3_var 8) (pe3_tup (pa3_cons (pe3_bin (o_add rfl) (pe3_ix (o_ix rfl) (pe3_var 0) pe3_int) (pe3_bin (o_mul rfl) (pe3_var 7) (pe3_ty (c_int) rfl T.n_int bt_int (pa3_cons (pe3_cmp (o_eq rfl (u64 hr)) (pe3_var 5) pe3_int) pa3_nil)))) (pa3_cons (pe3_var 3) pa3_nil)))))
  (pss3_cons (ps3_setLc (i := 9) (own := [("pair", 10)]) (t := (.one 10)) rfl rfl sc_law_mended.nd rfl rfl (sw_true rfl rfl rfl (by decide +kernel)) (pi3_seq rfl (pe3_var 4)) (blkOk_by (own := [("pair", 10)]) (N := N_law_mended) (sc := defScope s_law_mended) (by decide +kernel)) (slots_ok (n := 11) (by decide)) (by decide) (fun _ _ _ _ _ => (pg3_one sc_law_mended.nd rfl (Or.inl rfl))) (fun _ _ _ _ _ => (pts3_one (pt3_cmp (o_eq rfl (u64 hr)) (pe3_ix (o_ix rfl) (pe3_var 10) pe3_int) (pe3_var 6)))) (fun _ _ _ _ _ => (pe3_var 10)))
  (pss3_one (ps3_if (PW.pt (pw3_and (pt3_cmp (o_eq rfl (u64 hr)) (pe3_var 9) (pe3_lst pa3_nil)) (pw3_and1 (pt3_not (pt3_val (pe3_call (A .law_lost) (hr.mono (by omega)) rfl (T.mgF .law_lost) (T.fn .law_lost).kp (T.bd .law_lost) (takes_of rfl rfl rfl rfl) (pa3_cons (pe3_var 0) (pa3_cons (pe3_var 1) (pa3_cons pe3_int (pa3_cons (pe3_var 8) (pa3_cons pe3_dnew pa3_nil))))) rfl (lenA_cons (lenA_cons (lenA_cons (lenA_cons (lenA_cons lenA_nil))))))))))) (pss3_one (ps3_exp (pe3_app rfl (pe3_var 4) (pe3_tup (pa3_cons (pe3_var 6) (pa3_cons (pe3_var 7) pa3_nil)))))) pss3_nil)))))))))
  (pss3_one (ps3_ret (pe3_var 4)))))
theorem d_law_refused : FnOk P w K mg base (L2.CX P w) (3 * n + 2 + 1) (He.fAd K (nm .law_refused, none)) (fd .law_refused) (ps .law_refused) (spOf (zOf K P w) (ar .law_refused) (runB (b_law_refused (run n)) 2)) :=
  fn3D (T.fn .law_refused) sc_law_refused rfl rfl fun cdv A0 outer s H E hc hr =>
  (pss3_cons (ps3_for (t := (.one 1)) rfl (passes_of rfl) rfl (pi3_seq rfl (pe3_lst (pa3_cons (pe3_un o_neg pe3_int) (pa3_cons pe3_int (pa3_cons pe3_non (pa3_cons pe3_bl pa3_nil)))))) (pg3_one sc_law_refused.nd rfl (Or.inr rfl)) (slots_ok (n := 2) (by decide)) (pss3_cons (ps3_if (pt3_cmp (o_ne rfl (u64 hr)) (pe3_word (k := 3 * n) rfl T.mgW T.wd T.wb sc_law_word (Or.inl rfl) (fun _ => gives_w rfl rfl T) (TB ("_law_refused", none) tf_law_refused) hc tm_law_refused (tu_law_refused T) hr (LamX.lamS_by (sc := defScope s_law_refused) (by decide +kernel)) (fun A2 outer2 s2 H2 E2 f2 c2 hr2 => (pe3_call (A .mends) hr2 rfl (T.mgF .mends) (T.fn .mends).kp (T.bd .mends) (takes_of rfl rfl rfl rfl) (pa3_cons (pe3_var 0) (pa3_cons pe3_int (pa3_cons (pe3_var 1) (pa3_cons pe3_non pa3_nil)))) rfl (lenA_cons (lenA_cons (lenA_cons (lenA_cons lenA_nil))))))) pe3_str) (pss3_one (ps3_ret pe3_bl)) pss3_nil)
  (pss3_cons (ps3_if (pt3_cmp (o_ne rfl (u64 hr)) (pe3_word (k := 3 * n) rfl T.mgW T.wd T.wb sc_law_word (Or.inl rfl) (fun _ => gives_w rfl rfl T) (TB ("_law_refused", none) tf_law_refused) hc tm_law_refused (tu_law_refused T) hr (LamX.lamS_by (sc := defScope s_law_refused) (by decide +kernel)) (fun A2 outer2 s2 H2 E2 f2 c2 hr2 => (pe3_call (A .least_bench) hr2 rfl (T.mgF .least_bench) (T.fn .least_bench).kp (T.bd .least_bench) (takes_of rfl rfl rfl rfl) (pa3_cons (pe3_var 0) (pa3_cons pe3_int (pa3_cons (pe3_var 1) pa3_nil))) rfl (lenA_cons (lenA_cons (lenA_cons lenA_nil)))))) pe3_str) (pss3_one (ps3_ret pe3_bl)) pss3_nil)
  (pss3_one (ps3_if (pt3_cmp (o_ne rfl (u64 hr)) (pe3_word (k := 3 * n) rfl T.mgW T.wd T.wb sc_law_word (Or.inl rfl) (fun _ => gives_w rfl rfl T) (TB ("_law_refused", none) tf_law_refused) hc tm_law_refused (tu_law_refused T) hr (LamX.lamS_by (sc := defScope s_law_refused) (by decide +kernel)) (fun A2 outer2 s2 H2 E2 f2 c2 hr2 => (pe3_call (A .most_hurts) hr2 rfl (T.mgF .most_hurts) (T.fn .most_hurts).kp (T.bd .most_hurts) (takes_of rfl rfl rfl rfl) (pa3_cons (pe3_var 0) (pa3_cons pe3_int (pa3_cons (pe3_var 1) pa3_nil))) rfl (lenA_cons (lenA_cons (lenA_cons lenA_nil)))))) pe3_str) (pss3_one (ps3_ret pe3_bl)) pss3_nil)))))
  (pss3_one (ps3_ret pe3_bl)))
theorem d_law : FnOk P w K mg base (L2.CX P w) (3 * n + 2 + 1) (He.fAd K (nm .law, none)) (fd .law) (ps .law) (spOf (zOf K P w) (ar .law) (runB (b_law (run n)) 14)) :=
  fn3D (T.fn .law) sc_law rfl rfl fun cdv A0 outer s H E hc hr =>
  (pss3_cons (ps3_for (t := (.one 1)) rfl (passes_of rfl) rfl (pi3_rg1 rfl T.n_range (pe3_bin (o_add rfl) pe3_int (pe3_bi (c_min rfl rfl) rfl T.n_min bt_min (pa3_cons (pe3_bi (c_len rfl) rfl T.n_len bt_len (pa3_cons (pe3_var 0) pa3_nil)) (pa3_cons pe3_int pa3_nil))))) (pg3_one sc_law.nd rfl (Or.inl rfl)) (slots_ok (n := 14) (by decide)) (pss3_cons (ps3_set (i := 2) sc_law.nd rfl (Or.inl rfl) (pe3_call (A .law_flask_of) (hr.mono (by omega)) rfl (T.mgF .law_flask_of) (T.fn .law_flask_of).kp (T.bd .law_flask_of) (takes_of rfl rfl rfl rfl) (pa3_cons (pe3_var 0) (pa3_cons (pe3_var 1) pa3_nil)) rfl (lenA_cons (lenA_cons lenA_nil))))
  (pss3_cons (ps3_for (t := (.one 3)) rfl (passes_of rfl) rfl (pi3_rg1 rfl T.n_range pe3_int) (pg3_one sc_law.nd rfl (Or.inl rfl)) (slots_ok (n := 14) (by decide)) (pss3_cons (ps3_set (i := 4) sc_law.nd rfl (Or.inr rfl) (pe3_call (A .law_code) (hr.mono (by omega)) rfl (T.mgF .law_code) (T.fn .law_code).kp (T.bd .law_code) (takes_of rfl rfl rfl rfl) (pa3_cons (pe3_var 2) pa3_nil) rfl (lenA_cons lenA_nil)))
  (pss3_cons (ps3_set (i := 5) sc_law.nd rfl (Or.inr rfl) (pe3_call (A .law_some) (hr.mono (by omega)) rfl (T.mgF .law_some) (T.fn .law_some).kp (T.bd .law_some) (takes_of rfl rfl rfl rfl) (pa3_cons (pe3_var 2) (pa3_cons (pe3_lst (pa3_cons pe3_int (pa3_cons pe3_int (pa3_cons pe3_int (pa3_cons pe3_int (pa3_cons pe3_int (pa3_cons pe3_int (pa3_cons pe3_int (pa3_cons (pe3_bin o_pow pe3_int pe3_int) pa3_nil))))))))) pa3_nil)) rfl (lenA_cons (lenA_cons lenA_nil))))
  (pss3_cons (ps3_asg (t := (.tup [6, 7])) rfl (pe3_tup (pa3_cons (pe3_call (A .law_sip) (hr.mono (by omega)) rfl (T.mgF .law_sip) (T.fn .law_sip).kp (T.bd .law_sip) (takes_of rfl rfl rfl rfl) (pa3_cons (pe3_var 2) (pa3_cons pe3_int pa3_nil)) rfl (lenA_cons (lenA_cons lenA_nil))) (pa3_cons (pe3_call (A .law_sip) (hr.mono (by omega)) rfl (T.mgF .law_sip) (T.fn .law_sip).kp (T.bd .law_sip) (takes_of rfl rfl rfl rfl) (pa3_cons (pe3_var 2) (pa3_cons pe3_int pa3_nil)) rfl (lenA_cons (lenA_cons lenA_nil))) pa3_nil))) (pg_tup rfl (pgs3_cons sc_law.nd rfl (Or.inr rfl) (pgs3_cons sc_law.nd rfl (Or.inl rfl) pgs3_nil))) (slots_ok (n := 14) (by decide)))
  (pss3_cons (ps3_setLc (i := 8) (own := [("number", 10)]) (t := (.one 10)) rfl rfl sc_law.nd rfl rfl (sw_true rfl rfl rfl (by decide +kernel)) (pi3_rg1 rfl T.n_range pe3_int) (blkOk_by (own := [("number", 10)]) (N := N_law) (sc := defScope s_law) (by decide +kernel)) (slots_ok (n := 14) (by decide)) (by decide) (fun _ _ _ _ _ => (pg3_one sc_law.nd rfl (Or.inl rfl))) (fun _ _ _ _ _ => (pts3_one (pt3_val (pe3_call (A .caught) (hr.mono (by omega)) rfl (T.mgF .caught) (T.fn .caught).kp (T.bd .caught) takes0 (pa3_cons (pe3_var 4) (pa3_cons (pe3_var 5) (pa3_cons (pe3_var 6) (pa3_cons (pe3_var 10) pa3_nil)))) rfl (lenA_cons (lenA_cons (lenA_cons (lenA_cons lenA_nil)))))))) (fun _ _ _ _ _ => (pe3_var 10)))
  (pss3_cons (ps3_set (i := 9) sc_law.nd rfl (Or.inl rfl) (pe3_call (A .most_hurts) (hr.mono (by omega)) rfl (T.mgF .most_hurts) (T.fn .most_hurts).kp (T.bd .most_hurts) (takes_of rfl rfl rfl rfl) (pa3_cons (pe3_var 4) (pa3_cons (pe3_var 5) (pa3_cons (pe3_var 6) pa3_nil))) rfl (lenA_cons (lenA_cons (lenA_cons lenA_nil)))))
  (pss3_cons (ps3_if (pt3_cmp (o_ne rfl (u64 hr)) (pe3_var 9) (pe3_if (pt3_cmp (o_ne rfl (u64 hr)) (pe3_var 8) (pe3_lst pa3_nil)) (pe3_bin o_sub (pe3_ix (o_ix rfl) (pe3_var 8) pe3_int) pe3_int) pe3_non)) (pss3_one (ps3_if (PW.pt (pw3_or (pt3_cmp (o_ne rfl (u64 hr)) (pe3_var 8) (pe3_lst pa3_nil)) (pw3_or1 (pt3_cmp (o_ne rfl (u64 hr)) (pe3_var 9) pe3_int)))) (pss3_one (ps3_ret pe3_bl)) pss3_nil)) pss3_nil)
  (pss3_cons (ps3_set (i := 8) sc_law.nd rfl (Or.inl rfl) (pe3_lst pa3_nil))
  (pss3_cons (ps3_for (t := (.one 10)) rfl (passes_of rfl) rfl (pi3_rg1 rfl T.n_range pe3_int) (pg3_one sc_law.nd rfl (Or.inl rfl)) (slots_ok (n := 14) (by decide)) (pss3_one (ps3_set (i := 8) sc_law.nd rfl (Or.inl rfl) (pe3_bin (o_add rfl) (pe3_var 8) (pe3_if (pt3_val (pe3_call (A .caught) (hr.mono (by omega)) rfl (T.mgF .caught) (T.fn .caught).kp (T.bd .caught) (takes_of rfl rfl rfl rfl) (pa3_cons (pe3_var 4) (pa3_cons (pe3_var 5) (pa3_cons (pe3_var 10) (pa3_cons (pe3_var 7) pa3_nil)))) rfl (lenA_cons (lenA_cons (lenA_cons (lenA_cons lenA_nil)))))) (pe3_lst pa3_nil) (pe3_lst (pa3_cons (pe3_var 10) pa3_nil)))))))
  (pss3_cons (ps3_if (pt3_cmp (o_ne rfl (u64 hr)) (pe3_call (A .least_bench) (hr.mono (by omega)) rfl (T.mgF .least_bench) (T.fn .least_bench).kp (T.bd .least_bench) (takes_of rfl rfl rfl rfl) (pa3_cons (pe3_var 4) (pa3_cons (pe3_var 5) (pa3_cons (pe3_var 7) pa3_nil))) rfl (lenA_cons (lenA_cons (lenA_cons lenA_nil)))) (pe3_if (pt3_cmp (o_ne rfl (u64 hr)) (pe3_var 8) (pe3_lst pa3_nil)) (pe3_ix (o_ix rfl) (pe3_var 8) pe3_int) pe3_non)) (pss3_one (ps3_ret pe3_bl)) pss3_nil)
  (pss3_cons (ps3_set (i := 11) sc_law.nd rfl (Or.inl rfl) (pe3_bi (c_min rfl rfl) rfl T.n_min bt_min (pa3_cons (pe3_var 5) (pa3_cons pe3_int pa3_nil))))
  (pss3_one (ps3_if (pt3_cmp (o_ne rfl (u64 hr)) (pe3_call (A .mends) (hr.mono (by omega)) rfl (T.mgF .mends) (T.fn .mends).kp (T.bd .mends) (takes_of rfl rfl rfl rfl) (pa3_cons (pe3_var 4) (pa3_cons (pe3_var 11) (pa3_cons (pe3_var 6) (pa3_cons (pe3_var 7) pa3_nil)))) rfl (lenA_cons (lenA_cons (lenA_cons (lenA_cons lenA_nil))))) (pe3_call (A .law_mended) (hr.mono (by omega)) rfl (T.mgF .law_mended) (T.fn .law_mended).kp (T.bd .law_mended) (takes_of rfl rfl rfl rfl) (pa3_cons (pe3_var 4) (pa3_cons (pe3_var 11) (pa3_cons (pe3_var 6) (pa3_cons (pe3_var 7) pa3_nil)))) rfl (lenA_cons (lenA_cons (lenA_cons (lenA_cons lenA_nil)))))) (pss3_one (ps3_ret pe3_bl)) pss3_nil)))))))))))))
  (pss3_one (ps3_if (pt3_not (pt3_val (pe3_call (A .law_refused) (hr.mono (by omega)) rfl (T.mgF .law_refused) (T.fn .law_refused).kp (T.bd .law_refused) (takes_of rfl rfl rfl rfl) (pa3_cons (pe3_var 4) pa3_nil) rfl (lenA_cons lenA_nil)))) (pss3_one (ps3_ret pe3_bl)) pss3_nil)))))
  (pss3_cons (ps3_set (i := 12) sc_law.nd rfl (Or.inl rfl) (pe3_tup (pa3_cons pe3_int (pa3_cons pe3_int (pa3_cons (pe3_tup pa3_nil) (pa3_cons pe3_int pa3_nil))))))
  (pss3_cons (ps3_if (pt3_cmp (o_ne rfl (u64 hr)) (pe3_lst (pa3_cons (pe3_call (A .most_hurts) (hr.mono (by omega)) rfl (T.mgF .most_hurts) (T.fn .most_hurts).kp (T.bd .most_hurts) (takes_of rfl rfl rfl rfl) (pa3_cons (pe3_var 12) (pa3_cons pe3_int (pa3_cons pe3_int pa3_nil))) rfl (lenA_cons (lenA_cons (lenA_cons lenA_nil)))) (pa3_cons (pe3_call (A .most_hurts) (hr.mono (by omega)) rfl (T.mgF .most_hurts) (T.fn .most_hurts).kp (T.bd .most_hurts) (takes_of rfl rfl rfl rfl) (pa3_cons (pe3_var 12) (pa3_cons pe3_int (pa3_cons pe3_int pa3_nil))) rfl (lenA_cons (lenA_cons (lenA_cons lenA_nil)))) (pa3_cons (pe3_call (A .most_hurts) (hr.mono (by omega)) rfl (T.mgF .most_hurts) (T.fn .most_hurts).kp (T.bd .most_hurts) (takes_of rfl rfl rfl rfl) (pa3_cons (pe3_tup (pa3_cons pe3_int (pa3_cons pe3_int (pa3_cons (pe3_tup pa3_nil) (pa3_cons pe3_int pa3_nil))))) (pa3_cons pe3_int (pa3_cons pe3_int pa3_nil))) rfl (lenA_cons (lenA_cons (lenA_cons lenA_nil)))) pa3_nil)))) (pe3_lst (pa3_cons pe3_non (pa3_cons pe3_int (pa3_cons pe3_int pa3_nil))))) (pss3_one (ps3_ret pe3_bl)) pss3_nil)
  (pss3_cons (ps3_if (pt3_cmp (o_ne rfl (u64 hr)) (pe3_lst (pa3_cons (pe3_call (A .most_hurts) (hr.mono (by omega)) rfl (T.mgF .most_hurts) (T.fn .most_hurts).kp (T.bd .most_hurts) (takes_of rfl rfl rfl rfl) (pa3_cons (pe3_tup (pa3_cons pe3_int (pa3_cons pe3_int (pa3_cons (pe3_tup pa3_nil) (pa3_cons pe3_int pa3_nil))))) (pa3_cons pe3_int (pa3_cons pe3_int pa3_nil))) rfl (lenA_cons (lenA_cons (lenA_cons lenA_nil)))) (pa3_cons (pe3_call (A .most_hurts) (hr.mono (by omega)) rfl (T.mgF .most_hurts) (T.fn .most_hurts).kp (T.bd .most_hurts) (takes_of rfl rfl rfl rfl) (pa3_cons (pe3_tup (pa3_cons pe3_int (pa3_cons pe3_int (pa3_cons (pe3_tup (pa3_cons pe3_int (pa3_cons pe3_int pa3_nil))) (pa3_cons pe3_int pa3_nil))))) (pa3_cons pe3_int (pa3_cons pe3_int pa3_nil))) rfl (lenA_cons (lenA_cons (lenA_cons lenA_nil)))) pa3_nil))) (pe3_lst (pa3_cons pe3_int (pa3_cons pe3_int pa3_nil)))) (pss3_one (ps3_ret pe3_bl)) pss3_nil)
  (pss3_cons (ps3_if (pt3_cmp (o_ne rfl (u64 hr)) (pe3_lst (pa3_cons (pe3_call (A .least_bench) (hr.mono (by omega)) rfl (T.mgF .least_bench) (T.fn .least_bench).kp (T.bd .least_bench) (takes_of rfl rfl rfl rfl) (pa3_cons (pe3_tup (pa3_cons pe3_int (pa3_cons pe3_int (pa3_cons (pe3_tup pa3_nil) (pa3_cons pe3_int pa3_nil))))) (pa3_cons (pe3_bin o_pow pe3_int pe3_int) (pa3_cons pe3_int pa3_nil))) rfl (lenA_cons (lenA_cons (lenA_cons lenA_nil)))) (pa3_cons (pe3_call (A .least_bench) (hr.mono (by omega)) rfl (T.mgF .least_bench) (T.fn .least_bench).kp (T.bd .least_bench) (takes_of rfl rfl rfl rfl) (pa3_cons (pe3_tup (pa3_cons pe3_int (pa3_cons pe3_int (pa3_cons (pe3_tup pa3_nil) (pa3_cons pe3_int pa3_nil))))) (pa3_cons (pe3_bin o_pow pe3_int pe3_int) (pa3_cons pe3_int pa3_nil))) rfl (lenA_cons (lenA_cons (lenA_cons lenA_nil)))) pa3_nil))) (pe3_lst (pa3_cons pe3_int (pa3_cons pe3_non pa3_nil)))) (pss3_one (ps3_ret pe3_bl)) pss3_nil)
  (pss3_cons (ps3_if (PW.pt (pw3_or (pt3_cmp (o_ne rfl (u64 hr)) (pe3_call (A .mends) (hr.mono (by omega)) rfl (T.mgF .mends) (T.fn .mends).kp (T.bd .mends) (takes_of rfl rfl rfl rfl) (pa3_cons (pe3_var 12) (pa3_cons pe3_int (pa3_cons pe3_int (pa3_cons pe3_int pa3_nil)))) rfl (lenA_cons (lenA_cons (lenA_cons (lenA_cons lenA_nil))))) (pe3_lst pa3_nil)) (pw3_or1 (pt3_cmp (o_ne rfl (u64 hr)) (pe3_call (A .mends) (hr.mono (by omega)) rfl (T.mgF .mends) (T.fn .mends).kp (T.bd .mends) (takes_of rfl rfl rfl rfl) (pa3_cons (pe3_tup (pa3_cons pe3_int (pa3_cons pe3_int (pa3_cons (pe3_tup pa3_nil) (pa3_cons pe3_int pa3_nil))))) (pa3_cons pe3_int (pa3_cons pe3_int (pa3_cons pe3_int pa3_nil)))) rfl (lenA_cons (lenA_cons (lenA_cons (lenA_cons lenA_nil))))) (pe3_lst (pa3_cons (pe3_tup (pa3_cons pe3_str (pa3_cons pe3_int pa3_nil))) (pa3_cons (pe3_tup (pa3_cons pe3_str (pa3_cons pe3_int pa3_nil))) pa3_nil))))))) (pss3_one (ps3_ret pe3_bl)) pss3_nil)
  (pss3_cons (ps3_if (PW.pt (pw3_or (pt3_cmp (o_ne rfl (u64 hr)) (pe3_call (A .mends) (hr.mono (by omega)) rfl (T.mgF .mends) (T.fn .mends).kp (T.bd .mends) (takes_of rfl rfl rfl rfl) (pa3_cons (pe3_tup (pa3_cons pe3_int (pa3_cons pe3_int (pa3_cons (pe3_tup pa3_nil) (pa3_cons pe3_int pa3_nil))))) (pa3_cons pe3_int (pa3_cons pe3_int (pa3_cons pe3_int pa3_nil)))) rfl (lenA_cons (lenA_cons (lenA_cons (lenA_cons lenA_nil))))) (pe3_lst (pa3_cons (pe3_tup (pa3_cons pe3_str (pa3_cons pe3_int pa3_nil))) pa3_nil))) (pw3_or1 (pt3_cmp (o_ne rfl (u64 hr)) (pe3_call (A .mends) (hr.mono (by omega)) rfl (T.mgF .mends) (T.fn .mends).kp (T.bd .mends) (takes_of rfl rfl rfl rfl) (pa3_cons (pe3_tup (pa3_cons pe3_int (pa3_cons pe3_int (pa3_cons (pe3_tup pa3_nil) (pa3_cons pe3_int pa3_nil))))) (pa3_cons (pe3_bin o_pow pe3_int pe3_int) (pa3_cons pe3_int (pa3_cons pe3_int pa3_nil)))) rfl (lenA_cons (lenA_cons (lenA_cons (lenA_cons lenA_nil))))) (pe3_lst (pa3_cons (pe3_tup (pa3_cons pe3_str (pa3_cons pe3_int pa3_nil))) pa3_nil)))))) (pss3_one (ps3_ret pe3_bl)) pss3_nil)
  (pss3_one (ps3_ret (pe3_cmp (o_eq rfl (u64 hr)) (pe3_call (A .mends) (hr.mono (by omega)) rfl (T.mgF .mends) (T.fn .mends).kp (T.bd .mends) (takes_of rfl rfl rfl rfl) (pa3_cons (pe3_var 12) (pa3_cons pe3_int (pa3_cons pe3_int (pa3_cons pe3_int pa3_nil)))) rfl (lenA_cons (lenA_cons (lenA_cons (lenA_cons lenA_nil))))) (pe3_lc (own := [("label", 13)]) (t := (.one 13)) rfl rfl sc_law.nd (pi3_seq rfl (pe3_lst (pa3_cons pe3_str (pa3_cons pe3_str (pa3_cons pe3_str (pa3_cons pe3_str pa3_nil)))))) (blkOk_by (own := [("label", 13)]) (N := N_law) (sc := defScope s_law) (by decide +kernel)) (slots_ok (n := 14) (by decide)) (by decide) (fun _ _ _ _ _ => (pg3_one sc_law.nd rfl (Or.inl rfl))) (fun _ _ _ _ _ => pts3_nil) (fun _ _ _ _ _ => (pe3_tup (pa3_cons (pe3_var 13) (pa3_cons pe3_int pa3_nil)))))))))))))))
end
end L3

namespace L3
open PySem L2
def isI (d : D) (lo hi : Int) : Bool := match d with
  | .int i => decide (lo ≤ i) && decide (i ≤ hi)
  | _ => false
theorem isI_int {d : D} {lo hi : Int} (h : isI d lo hi = true) : ∃ i, d = .int i ∧ lo ≤ i ∧ i ≤ hi := by
  cases d <;> simp [isI] at h
  exact ⟨_, rfl, h.1, h.2⟩
theorem isint_eq {n r m : Nat} {g : GH} {d : D} {lo hi : Int} (h : Vl r g m d) : run (n+1) .is_int [d, .int lo, .int hi] g = .ok (.bl (isI d lo hi)) g := by
  apply eq_of_wp
  show wp (runB (b_is_int (run n)) 3 _ g) _ _
  cases d with
  | int i =>
    by_cases h1 : lo ≤ i <;> simp [b_is_int, isI, h1] <;> omega
  | _ => simp [b_is_int, h.isB, isI]

theorem need_number_ok {n r m : Nat} {g : GH} {d : D} {lo hi : Int} (h : Vl r g m d) (hb : isI d lo hi = true) : run (n+2) .need_number [d, .int lo, .int hi] g = .ok .non g := by
  apply eq_of_wp
  show wp (runB (b_need_number (run (n+1))) 3 _ g) _ _
  simp [b_need_number, isint_eq h, hb]
  rw [ltr_eq]
  simp
theorem need_number_er {n r m : Nat} {g : GH} {d : D} {lo hi : Int} (h : Vl r g m d) (hb : isI d lo hi = false) : run (n+2) .need_number [d, .int lo, .int hi] g = .er (.own 2) g := by
  apply er_of_wp
  show wp (runB (b_need_number (run (n+1))) 3 _ g) _ _
  simp [b_need_number, isint_eq h, hb]
  rw [ltr_eq]
  simp

def risB : Int → List D → Bool
  | _, [] => true
  | last, d :: ds => match d with
    | .int i => decide (last < i) && (decide (i ≤ 12) && risB i ds)
    | _ => false
def codeB (d : D) : Bool := match d with
  | .tup [a, b, .tup ps, c] => isI a 0 5 && (isI b 0 4 && (decide (ps.length ≤ 2) && (isI c 0 2 && risB 0 ps)))
  | _ => false
theorem ris_two : ∀ ps : List D, ps.length ≤ 2 → (∀ x ∈ ps, isI x 1 12 = true) → ∃ is : List Int, ps = is.map D.int ∧ decide (is = canon is) = risB 0 ps
  | [], _, _ => ⟨[], rfl, rfl⟩
  | [a], _, h => by
    obtain ⟨i, rfl, h1, h2⟩ := isI_int (h a (by simp))
    exact ⟨[i], rfl, by simp [canon, insI, risB]; omega⟩
  | [a, b], _, h => by
    obtain ⟨i, rfl, h1, h2⟩ := isI_int (h a (by simp))
    obtain ⟨j, rfl, h3, h4⟩ := isI_int (h b (by simp))
    refine ⟨[i, j], rfl, ?_⟩
    simp only [canon, insI, risB, List.foldr]
    by_cases c : i < j
    · simp [c]; omega
    · by_cases c2 : i = j
      · simp [c2]
      · simp [c, c2]
  | _ :: _ :: _ :: _, h, _ => by simp at h
theorem ris_not : ∀ (ps : List D) (a : Int), 0 ≤ a → (∃ x ∈ ps, isI x 1 12 = false) → risB a ps = false
  | [], _, _, h => by simp at h
  | d :: ds, a, ha, ⟨x, hx, h⟩ => by
    cases d with
    | int i =>
      simp only [risB]
      rcases List.mem_cons.mp hx with rfl | hx
      · simp [isI] at h
        by_cases c : a < i
        · have := h (by omega)
          simp [c]; intro; omega
        · simp [c]
      · by_cases c : a < i
        · rw [ris_not ds i (by omega) ⟨x, hx, h⟩]; simp
        · simp [c]
    | _ => simp [risB]
theorem insI_len (k : Int) : ∀ js : List Int, (insI k js).length ≤ js.length + 1
  | [] => by simp [insI]
  | j :: js => by
    unfold insI
    split
    · simp
    · split
      · simp
      · have := insI_len k js
        simp; omega
theorem canon_len : ∀ is : List Int, (canon is).length ≤ is.length
  | [] => by simp [canon]
  | i :: is => by
    have h1 := canon_len is
    have h2 := insI_len i (canon is)
    have e : canon (i :: is) = insI i (canon is) := rfl
    rw [e]
    simp; omega
theorem rules_ok {n r m : Nat} {g : GH} {d : D} (h : Vl r g m d) (hm : m ≤ 14) : wp (run (n+2) .rules_so [d] g) (fun x g' => x = .bl (codeB d) ∧ App g g') F0 := by
  show wp (runB (b_rules_so (run (n+1))) 2 _ g) _ _
  obtain ⟨m, rfl⟩ : ∃ k, m = k + 1 := by
    cases m with
    | zero => exact h.elim
    | succ m => exact ⟨m, rfl⟩
  cases d with
  | tup ds =>
    by_cases hl : ds.length = 4
    · obtain ⟨a, b, p, c, rfl⟩ : ∃ a b p c, ds = [a, b, p, c] := by
        match ds, hl with
        | [a, b, p, c], _ => exact ⟨a, b, p, c, rfl⟩
      have ha := h.2 a (by simp)
      have hb := h.2 b (by simp)
      have hp := h.2 p (by simp)
      have hc := h.2 c (by simp)
      simp [b_rules_so]
      rw [ltr_eq]
      simp
      rw [ltr_eq]
      by_cases c1 : isI a 0 5 = true
      · by_cases c2 : isI b 0 4 = true
        · simp [isint_eq ha, isint_eq hb, c1, c2]
          rw [ltr_eq]
          simp
          rw [ltr_eq]
          cases p with
          | tup ps =>
            by_cases c3 : ps.length ≤ 2
            · by_cases c4 : isI c 0 2 = true
              · have c3' : ¬ (2 : Int) < ps.length := by omega
                simp [isint_eq hc, c3', c4]
                rw [ltr_eq]
                simp
                rw [ltr_eq]
                have hps : ∀ x ∈ ps, ∀ g', App g g' → Vl r g' m x := fun x hx g' A => by
                  cases m with
                  | zero => exact hp.elim
                  | succ m => exact Vl.app A (Vl.up m (m + 1) x (by omega) (hp.2 x hx))
                simp
                refine ⟨by omega, comp_app (fun x => if isI x 1 12 then none else some x) ps (fun _ _ => rfl) (fun x hx g' A => ⟨_, rfl, ?_⟩) _ fun g' A => ?_⟩
                · by_cases c5 : isI x 1 12 = true <;> simp [wipeR, isint_eq (hps x hx g' A), c5, App.refl]
                · rw [ne_nil (ds := ps.filterMap fun x => if isI x 1 12 then none else some x) (by simp) (by simp) (fun x hx => ?_)]
                  · by_cases c6 : ∀ x ∈ ps, isI x 1 12 = true
                    · have e0 : (ps.filterMap fun x => if isI x 1 12 then none else some x) = [] := List.filterMap_eq_nil_iff.mpr fun x hx => by simp [c6 x hx]
                      obtain ⟨is, e1, e2⟩ := ris_two ps c3 c6
                      simp [e0]
                      rw [ltr_eq]
                      simp
                      rw [ltr_eq]
                      have hl2 : is.length ≤ 2 := by rw [e1] at c3; simpa using c3
                      subst e1
                      simp
                      rw [set_ints (by omega)]
                      simp
                      rw [sorted_ref (ks := canon is) (by simp) (by have := canon_len is; omega)]
                      rw [eq_ints (is := is) (js := canon is) (by simp) (by simp)]
                      refine ⟨?_, A.trans ⟨_, List.append_assoc _ _ _⟩⟩
                      rw [e2]
                      simp [codeB, c1, c2, c4, hl2]
                    · have c7 : ∃ x ∈ ps, isI x 1 12 = false := by
                        simp at c6
                        exact c6
                      have e0 : (ps.filterMap fun x => if isI x 1 12 then none else some x).isEmpty = false := by
                        obtain ⟨x, hx, e⟩ := c7
                        have : x ∈ ps.filterMap fun x => if isI x 1 12 then none else some x := List.mem_filterMap.mpr ⟨x, hx, by simp [e]⟩
                        cases z : ps.filterMap fun x => if isI x 1 12 then none else some x with
                        | nil => rw [z] at this; cases this
                        | cons _ _ => rfl
                      simp [e0]
                      rw [ltr_eq]
                      simp [codeB, ris_not ps 0 (by omega) c7]
                      exact A.trans ⟨_, rfl⟩
                  · obtain ⟨y, hy, e⟩ := List.mem_filterMap.mp hx
                    split at e
                    · cases e
                    · cases e
                      exact ((hps x hy g' A).app (g' := g' ++ [_, _]) ⟨_, rfl⟩).py m 15 x (by omega)
              · have c3' : ¬ (2 : Int) < ps.length := by omega
                simp at c4
                simp [isint_eq hc, c3', c4]
                rw [ltr_eq]
                simp [codeB, c4, App.refl]
            · have c3' : (2 : Int) < ps.length := by omega
              simp [c3']
              rw [ltr_eq]
              simp [codeB, c3, App.refl]
          | _ =>
            simp [hp.isB]
            rw [ltr_eq]
            simp [codeB, App.refl]
        · simp at c2
          simp [isint_eq ha, isint_eq hb, c1, c2]
          rw [ltr_eq]
          have : codeB (.tup [a, b, p, c]) = false := by
            cases p <;> simp [codeB, c2]
          simp [this, App.refl]
      · simp at c1
        simp [isint_eq ha, isint_eq hb, c1]
        rw [ltr_eq]
        have : codeB (.tup [a, b, p, c]) = false := by
          cases p <;> simp [codeB, c1]
        simp [this, App.refl]
    · have hl' : ¬ (ds.length : Int) = 4 := by omega
      simp [b_rules_so, hl']
      rw [ltr_eq]
      have : codeB (.tup ds) = false := by
        unfold codeB
        split
        · rename_i e; cases e; simp at hl
        · rfl
      simp [this, App.refl]
  | _ =>
    simp [b_rules_so, h.isB]
    rw [ltr_eq]
    simp [codeB, App.refl]

theorem need_rule_ok {n r m : Nat} {g : GH} {d : D} (h : Vl r g m d) (hm : m ≤ 14) (hb : codeB d = true) : wp (run (n+3) .need_rule [d] g) (fun x g' => x = .non ∧ App g g') F0 := by
  show wp (runB (b_need_rule (run (n+2))) 1 _ g) _ _
  simp [b_need_rule]
  refine (rules_ok h hm).use ?_
  rintro _ g1 ⟨rfl, A⟩
  simp [hb]
  rw [ltr_eq]
  simpa using A
theorem need_rule_er {n r m : Nat} {g : GH} {d : D} (h : Vl r g m d) (hm : m ≤ 14) (hb : codeB d = false) : wp (run (n+3) .need_rule [d] g) (fun _ _ => False) (fun e g' => e = .own 0 ∧ App g g') := by
  show wp (runB (b_need_rule (run (n+2))) 1 _ g) _ _
  simp [b_need_rule]
  refine (rules_ok h hm).imp ?_ fun _ _ z => z.elim
  rintro _ g1 ⟨rfl, A⟩
  simp [hb]
  rw [ltr_eq]
  simpa using A

/-- the drawing loop: t steps are left -/
def sipI (g : GH) (r : Nat) (m a : Int) (t : Nat) (ρ : Rho) (g1 : GH) : Prop := ∃ (u wd c : Int), ρ = [some (.ref r), some (.int m), some (.int u), some (.int wd)] ∧ 0 ≤ u ∧ u < wd ∧ wd ≤ 8192 * 10 ^ 300 ∧ t < 200 ∧ wd = 8192 ^ (199 - t) ∧
  g1[r]? = some (.lst [.int a, .int c]) ∧ 0 ≤ c ∧ c ≤ 2147482577 ∧ Kp r g g1 ∧ g1.length = g.length
theorem sip_ok {n r : Nat} {m : Int} {g : GH} (F : Fk r g) (h1 : 0 < m) (h2 : m ≤ 10^300) :
  wp (run (n+1) .law_sip [.ref r, .int m] g) (fun d g' => ∃ k, d = .int k ∧ 0 ≤ k ∧ k < m ∧ Fk r g' ∧ Kp r g g' ∧ g'.length = g.length) F0 := by
  obtain ⟨a, b, e, ha, hb, hb2⟩ := F
  have hr : r < g.length := (List.getElem?_eq_some_iff.mp e).1
  have hm : m.natAbs.log2 < 4000 := lg_big (by have := big_ge; omega) (by have := big_ge; omega)
  have hm9 : m.natAbs.log2 < 9000 := by omega
  show wp (runB (b_law_sip (run n)) 4 _ g) _ _
  rcases Int.lt_or_le 0 a with h | h
  · simp [b_law_sip, ix_lst (lst_ref e), h]
    rw [ltr_eq]
    simp [ix_lst (lst_ref e), h1]
    rw [ltr_eq]
    simp [ix_lst (lst_ref e), h1, opSet, e, ixN, hm9]
    rw [ltr_eq]
    simp
    exact ⟨Int.emod_nonneg _ (by omega), Int.emod_lt_of_pos _ h1, ⟨a / m, b, by simp [hr], Int.ediv_nonneg ha (by omega), hb, hb2⟩, Kp.set _⟩
  · have h : ¬ 0 < a := by omega
    simp [b_law_sip, ix_lst (lst_ref e), h]
    rw [ltr_eq]
    simp
    rw [ltr_eq]
    simp [setR]
    rw [ltr_eq]
    simp
    refine wps_while (sipI g r m a) ?_ 199 1000000 _ _ (by omega) ⟨0, 1, b, rfl, by omega, by omega, by decide +kernel, by omega, by simp, e, hb, hb2, Kp.refl _ _, rfl⟩
    rintro t ρ g1 ⟨u, wd, c, rfl, hu, huw, hwb, ht, hw, e1, hc, hc2, K1, L1⟩
    have hwB : wd ≤ Big := Int.le_trans hwb (by decide +kernel)
    by_cases hs : wd < m ∨ wd = 1
    · have go : ∃ m', t = m' + 1 := by
        cases t with
        | zero =>
          exfalso
          have : (10 : Int) ^ 300 < 8192 ^ 199 := by decide +kernel
          simp only [Nat.sub_zero] at hw
          have z : (1 : Int) < 10 ^ 300 := by decide +kernel
          omega
        | succ t => exact ⟨t, rfl⟩
      obtain ⟨t, rfl⟩ := go
      have hr1 : r < g1.length := by omega
      have hB : (2147482577:Int) ≤ Big := by decide +kernel
      have hwm : wd ≤ 10 ^ 300 := by
        have z : (1 : Int) < 10 ^ 300 := by decide +kernel
        omega
      have step : wps (b_law_sip_1 (run n) [some (.ref r), some (.int m), some (.int u), some (.int wd)] g1) ⟨sipI g r m a t, fun d g' => ∃ k, d = .int k ∧ 0 ≤ k ∧ k < m ∧ Fk r g' ∧ Kp r g g' ∧ g'.length = g.length, Ltr (sRet (eBin opMod (eBi fInt (aCons (eVar 2) aNil)) (eVar 1))) { nx := fun x g => False, rt := fun d g' => ∃ k, d = .int k ∧ 0 ≤ k ∧ k < m ∧ Fk r g' ∧ Kp r g g' ∧ g'.length = g.length, bk := fun x g => False, ct := fun x g => False, er := F0 }, sipI g r m a t, F0⟩ := by
        have l1 : c.natAbs.log2 + Nat.log2 16381 < 1000000 := lg2_big (j := 16381) ⟨by omega, by omega⟩ (by decide +kernel)
        have l2 : u.natAbs.log2 + Nat.log2 8192 < 1000000 := lg2_big (j := 8192) ⟨by omega, by omega⟩ (by decide +kernel)
        have l3 : wd.natAbs.log2 + Nat.log2 8192 < 1000000 := lg2_big (j := 8192) ⟨by omega, by omega⟩ (by decide +kernel)
        have p1 := Int.emod_nonneg (c * 16381 + 157) (b := 2147482577) (by omega)
        have p2 := Int.emod_lt_of_pos (c * 16381 + 157) (b := 2147482577) (by omega)
        generalize hc' : (c * 16381 + 157) % 2147482577 = c' at p1 p2
        simp [b_law_sip_1, ix_lst (lst_ref e1), opSet, e1, ixN, l1, hc']
        rw [ltr_eq]
        have e2 : (g1.set r (.lst [.int a, .int c']))[r]? = some (.lst [.int a, .int c']) := by simp [hr1]
        simp [ix_lst (lst_ref e2), l2, show Nat.log2 65809 < 9000 by decide +kernel]
        rw [ltr_eq]
        simp [l3]
        have q1 := Int.emod_nonneg (c' / 65809) (b := 8192) (by omega)
        have q2 := Int.emod_lt_of_pos (c' / 65809) (b := 8192) (by omega)
        refine ⟨_, _, c', rfl, by omega, by omega, by omega, by omega, ?_, e2, by omega, by omega, K1.trans (Kp.set _), by simp [L1]⟩
        have z : 199 - t = (199 - (t + 1)) + 1 := by omega
        rw [z, Int.pow_succ, ← hw]
      rcases Decidable.em (wd < m) with h3 | h3
      · simp [h3]
        exact step
      · simp [h3, show wd = 1 by omega]
        rw [show wd = 1 by omega] at step
        rcases Decidable.em (m ≤ 1) with z | z
        · exact .inl ⟨z, step⟩
        · exact .inr ⟨by omega, step⟩
    · have h3 : ¬ wd < m := fun z => hs (.inl z)
      have h4 : ¬ wd = 1 := fun z => hs (.inr z)
      simp [h3, h4]
      rw [ltr_eq]
      simp [h1]
      exact ⟨Int.emod_nonneg _ (by omega), Int.emod_lt_of_pos _ h1, ⟨a, c, e1, ha, hc, hc2⟩, K1, L1⟩

theorem some_tup {n r : Nat} {xs : List D} {g : GH} (F : Fk r g) (h0 : xs ≠ []) (hl : xs.length < 1000000) :
    wp (run (n+2) .law_some [.ref r, .tup xs] g) (fun d g' => d ∈ xs ∧ Fk r g' ∧ Kp r g g' ∧ g'.length = g.length) F0 := by
  show wp (runB (b_law_some (run (n+1))) 2 _ g) _ _
  have hp : 0 < xs.length := List.length_pos_iff.mpr h0
  simp [b_law_some]
  refine (sip_ok F (by omega) (by have : (1000000 : Int) < 10 ^ 300 := by decide +kernel
                                  omega)).use ?_
  rintro _ g' ⟨k, rfl, k0, k1, F', K, L⟩
  obtain ⟨x, e, hx⟩ := atI_mem (xs := xs) k0 k1
  simp [e]
  exact ⟨hx, F', K, L⟩
theorem some_ref {n r q : Nat} {xs : List D} {g : GH} (F : Fk r g) (h : g[q]? = some (.lst xs)) (hq : q ≠ r) (h0 : xs ≠ []) (hl : xs.length < 1000000) :
    wp (run (n+2) .law_some [.ref r, .ref q] g) (fun d g' => d ∈ xs ∧ Fk r g' ∧ Kp r g g' ∧ g'.length = g.length) F0 := by
  show wp (runB (b_law_some (run (n+1))) 2 _ g) _ _
  have hp : 0 < xs.length := List.length_pos_iff.mpr h0
  simp [b_law_some, len_lst (lst_ref h)]
  refine (sip_ok F (by omega) (by have : (1000000 : Int) < 10 ^ 300 := by decide +kernel
                                  omega)).use ?_
  rintro _ g' ⟨k, rfl, k0, k1, F', K, L⟩
  obtain ⟨x, e, hx⟩ := atI_mem (xs := xs) k0 k1
  simp [ix_lst (lst_ref (K.2 _ _ hq h)), e]
  exact ⟨hx, F', K, L⟩

def pausesV : List (List Int) := [[], [], [1], [2], [3], [2, 3], [1, 4], [5, 12]]
/-- what the law's codes are -/
def CodeV (d : D) : Prop := ∃ (a b c : Int) (p : List Int), d = .tup [.int a, .int b, .tup (p.map D.int), .int c] ∧ (0 ≤ a ∧ a < 4) ∧ (0 ≤ b ∧ b < 3) ∧ (0 ≤ c ∧ c < 3) ∧ p ∈ pausesV
theorem lcode_ok {n r : Nat} {g : GH} (F : Fk r g) : wp (run (n+3) .law_code [.ref r] g) (fun d g' => CodeV d ∧ Fk r g' ∧ Kp r g g') F0 := by
  show wp (runB (b_law_code (run (n+2))) 2 _ g) _ _
  have z300 : (1000 : Int) < 10 ^ 300 := by decide +kernel
  simp [b_law_code]
  refine (some_ref (F.app (App.one _ _)) (get_end _ _) (by have := F.lt; omega) (by simp) (by simp)).use ?_
  rintro d1 g1 ⟨hm, F1, K1, L1⟩
  have hm2 : d1 ∈ pausesV.map fun p => D.tup (p.map D.int) := hm
  obtain ⟨p, hp, rfl⟩ := List.mem_map.mp hm2
  rw [ltr_eq]
  simp
  refine (sip_ok F1 (by omega) (by omega)).use ?_
  rintro _ g2 ⟨a, rfl, a0, a1, F2, K2, L2⟩
  refine (sip_ok F2 (by omega) (by omega)).use ?_
  rintro _ g3 ⟨b, rfl, b0, b1, F3, K3, L3⟩
  refine (sip_ok F3 (by omega) (by omega)).use ?_
  rintro _ g4 ⟨c, rfl, c0, c1, F4, K4, L4⟩
  exact ⟨⟨a, b, c, p, rfl, ⟨a0, a1⟩, ⟨b0, b1⟩, ⟨c0, c1⟩, hp⟩, F4, ((((App.one g _).kp r).trans K1).trans K2).trans (K3.trans K4)⟩

/-- a game is lost: p pause stops, q others, b on the bench, c changes, w windows, k knocks, h hurts -/
def caughtI (b c w k p q h : Int) : Bool := decide (b < min (p + q) h) || (decide (c + k < min (p + q) h) || decide (w + k < min q h))
theorem caught_zero {b c w k p q h : Int} (hb : 0 ≤ b) (hc : 0 ≤ c) (hw : 0 ≤ w) (hk : 0 ≤ k) (hp : p = 0) (hq : q = 0) (hh : 0 ≤ h) : caughtI b c w k p q h = false := by
  simp [caughtI]
  omega
theorem served_eq {n : Nat} {g : GH} {b c w k p q : Int} (hk : 0 ≤ k) (hw : 0 ≤ w) (hc : 0 ≤ c) (hb : 0 ≤ b) (hp : 0 ≤ p) (hq : 0 ≤ q) :
    run (n+1) .served [.tup [.int b, .int c, .int w, .int k], .int p, .int q] g = .ok (.bl (decide (p + q ≤ b ∧ q ≤ w + k ∧ p + q ≤ c + k))) g := by
  apply eq_of_wp
  show wp (runB (b_served (run n)) 9 _ g) _ _
  simp [b_served, setR]
  rw [ltr_eq]
  simp
  rw [ltr_eq]
  simp
  rw [ltr_eq]
  generalize hm : (if q < k then q else k) = m
  by_cases h1 : b < p + q
  · simp [h1]
    rw [ltr_eq]
    simp
    omega
  · by_cases h2 : w < q - m
    · simp [h1, h2]
      rw [ltr_eq]
      simp
      split at hm <;> omega
    · simp [h1, h2]
      rw [ltr_eq]
      simp
      rw [ltr_eq]
      simp
      rw [Bool.eq_iff_iff]
      simp only [Bool.and_eq_true, decide_eq_true_eq]
      split at hm <;> split <;> omega
theorem is_caught_eq {n : Nat} {g : GH} {b c w k p q h : Int} (hk : 0 ≤ k) (hw : 0 ≤ w) (hc : 0 ≤ c) (hb : 0 ≤ b) (hp : 0 ≤ p) (hq : 0 ≤ q) (hh : 0 ≤ h ∧ h ≤ 1000) :
    run (n+2) .is_caught [.tup [.int b, .int c, .int w, .int k], .int p, .int q, .int h] g = .ok (.bl (caughtI b c w k p q h)) g := by
  apply eq_of_wp
  show wp (runB (b_is_caught (run (n+1))) 6 _ g) _ _
  simp [b_is_caught]
  generalize hm1 : (if h < p then h else p) = m1
  have hm1b : 0 ≤ m1 ∧ m1 ≤ 1000 ∧ m1 ≤ h ∧ m1 ≤ p ∧ (m1 = h ∨ m1 = p) := by split at hm1 <;> omega
  refine ⟨by omega, wps_rng (fun i ρ g' => g' = g ∧ (∃ o4 o5, ρ = [some (.tup [.int b, .int c, .int w, .int k]), some (.int p), some (.int q), some (.int h), o4, o5]) ∧
    ∀ x : Int, 0 ≤ x → x < i → ∀ y : Int, 0 ≤ y → y ≤ q → y ≤ h - x → (x + y ≤ b ∧ y ≤ w + k ∧ x + y ≤ c + k)) (by omega) ?_ ?_ _ _ ⟨rfl, ⟨none, none, rfl⟩, fun x _ hx => by omega⟩⟩
  · rintro i ρ g' h1 h2 ⟨rfl, ⟨o4, o5, rfl⟩, hx⟩
    simp [b_is_caught_2]
    generalize hm2 : (if h - i < q then h - i else q) = m2
    have hm2b : 0 ≤ m2 ∧ m2 ≤ 1000 ∧ m2 ≤ h - i ∧ m2 ≤ q ∧ (m2 = h - i ∨ m2 = q) := by split at hm2 <;> omega
    refine ⟨by omega, wps_rng (fun j ρ g2 => g2 = g' ∧ (∃ o5, ρ = [some (.tup [.int b, .int c, .int w, .int k]), some (.int p), some (.int q), some (.int h), some (.int i), o5]) ∧
      ∀ y : Int, 0 ≤ y → y < j → (i + y ≤ b ∧ y ≤ w + k ∧ i + y ≤ c + k)) (by omega) ?_ ?_ _ _ ⟨rfl, ⟨o5, rfl⟩, fun y _ hy => by omega⟩⟩
    · rintro j ρ g2 j1 j2 ⟨rfl, ⟨o5, rfl⟩, hy⟩
      have e := served_eq (n := n) (g := g2) (b := b) (c := c) (w := w) (k := k) (p := i) (q := j) hk hw hc hb h1 j1
      by_cases hs : i + j ≤ b ∧ j ≤ w + k ∧ i + j ≤ c + k
      · simp [b_is_caught_1, e, hs]
        rw [ltr_eq]
        simp
        intro y y0 y1
        by_cases ey : y = j
        · subst ey; omega
        · have := hy y y0 (by omega); omega
      · simp only [hs, decide_false] at e
        simp [b_is_caught_1, e]
        rw [ltr_eq]
        simp [caughtI]
        omega
    · rintro ρ g2 ⟨rfl, ⟨o5, rfl⟩, hy⟩
      refine ⟨rfl, ⟨_, _, rfl⟩, fun x x0 x1 y y0 y1 y2 => ?_⟩
      by_cases ex : x = i
      · subst ex; exact hy y y0 (by omega)
      · exact hx x x0 (by omega) y y0 y1 y2
  · rintro ρ g' ⟨rfl, ⟨o4, o5, rfl⟩, hx⟩
    dsimp only
    rw [ltr_eq]
    simp [caughtI]
    -- at the greatest numbers
    have a1 := hx m1 (by omega) (by omega) 0 (by omega) hq (by omega)
    have a2 := hx m1 (by omega) (by omega) (min q (h - m1)) (by omega) (by omega) (by omega)
    have a3 := hx 0 (by omega) (by omega) (min q h) (by omega) (by omega) (by omega)
    omega

abbrev codeD (a b c : Int) (p : List Int) : D := .tup [.int a, .int b, .tup (p.map D.int), .int c]
def pausesN (p : List Int) (ticks : Int) : Int := (p.filter fun x => decide (x < ticks)).length
theorem filter_ints (p : List Int) (t : Int) : (p.map D.int).filterMap (fun x => match x with | .int i => if i < t then some (.int i) else none | _ => none) = (p.filter fun x => decide (x < t)).map D.int := by
  induction p with
  | nil => rfl
  | cons i p ih =>
    by_cases h : i < t
    · simp [h] at ih ⊢
      exact ih
    · simp [h] at ih ⊢
      exact ih
theorem stops_ok {n : Nat} {g : GH} {a b c t : Int} {p : List Int} (hp : p.length ≤ 1000) : wp (run (n+1) .stops_of [codeD a b c p, .int t] g) (fun x g' => x = .tup [.int (pausesN p t), .int (t - 1 - pausesN p t)] ∧ App g g') F0 := by
  show wp (runB (b_stops_of (run n)) 4 _ g) _ _
  simp [b_stops_of, wipeR]
  refine ⟨by omega, comp_app (fun x => match x with | .int i => if i < t then some (.int i) else none | _ => none) (p.map D.int) (fun _ _ => rfl) (fun x hx g' A => ⟨_, rfl, ?_⟩) _ fun g' A => ?_⟩
  · obtain ⟨i, _, rfl⟩ := List.mem_map.mp hx
    by_cases h : i < t <;> simp [h, App.refl]
  · rw [filter_ints]
    rw [len_lst (lst_ref (get_end _ _))]
    rw [ltr_eq]
    simp [pausesN]
    exact A.trans (App.one _ _)
theorem caught_so_ok {n : Nat} {g : GH} {a b c t bn h : Int} {p : List Int} (hp : p.length ≤ 1000) (ha : 0 ≤ a) (hb : 0 ≤ b) (hc : 0 ≤ c) (hbn : 0 ≤ bn) (hh : 0 ≤ h ∧ h ≤ 1000) (ht : pausesN p t ≤ t - 1) :
    wp (run (n+3) .caught_so [codeD a b c p, .int t, .int bn, .int h] g) (fun x g' => x = .bl (caughtI bn a b c (pausesN p t) (t - 1 - pausesN p t) h) ∧ App g g') F0 := by
  show wp (runB (b_caught_so (run (n+2))) 6 _ g) _ _
  simp [b_caught_so]
  refine (stops_ok (n := n + 1) hp).use ?_
  rintro _ g1 ⟨rfl, A1⟩
  simp [setR]
  rw [ltr_eq]
  simp [is_caught_eq (n := n) (g := g1) hc hb ha hbn (p := pausesN p t) (q := t - 1 - pausesN p t) (h := h) (by unfold pausesN; omega) (by omega) hh]
  exact A1
theorem need_all_ok {n r m : Nat} {g : GH} {d : D} {t : Int} (h : Vl r g m d) (hm : m ≤ 14) (hb : codeB d = true) (ht : 1 ≤ t ∧ t ≤ 1000000000000000000000000000000) : wp (run (n+4) .need_all [d, .int t] g) (fun x g' => x = .non ∧ App g g') F0 := by
  show wp (runB (b_need_all (run (n+3))) 2 _ g) _ _
  simp [b_need_all]
  refine (need_rule_ok (n := n) h hm hb).use ?_
  rintro _ g1 ⟨rfl, A⟩
  rw [ltr_eq]
  have e := need_number_ok (n := n + 1) (r := g1.length) (m := 1) (g := g1) (d := .int t) (lo := 1) (hi := 1000000000000000000000000000000) True.intro (by simp [isI, ht])
  simp [e]
  exact A
theorem need_all_er {n r m : Nat} {g : GH} {d : D} {t : D} (h : Vl r g m d) (hm : m ≤ 14) (hb : codeB d = true) (h2 : Vl r g m t) (ht : isI t 1 1000000000000000000000000000000 = false) : wp (run (n+4) .need_all [d, t] g) (fun _ _ => False) (fun e g' => e = .own 2 ∧ App g g') := by
  show wp (runB (b_need_all (run (n+3))) 2 _ g) _ _
  simp [b_need_all]
  refine (need_rule_ok (n := n) h hm hb).imp ?_ fun _ _ z => z.elim
  rintro _ g1 ⟨rfl, A⟩
  rw [ltr_eq]
  have e := need_number_er (n := n + 1) (lo := 1) (hi := 1000000000000000000000000000000) (h2.app A) ht
  simp [e]
  exact A
theorem codeD_vl {r : Nat} {g : GH} {a b c : Int} {p : List Int} (hp : p.length ≤ 1000) : Vl r g 3 (codeD a b c p) := ⟨by simp, fun x hx => by
  simp only [List.mem_cons, List.not_mem_nil, or_false] at hx
  rcases hx with rfl | rfl | rfl | rfl
  · exact True.intro
  · exact True.intro
  · refine ⟨by simpa using hp, fun y hy => ?_⟩
    obtain ⟨i, _, rfl⟩ := List.mem_map.mp hy
    exact True.intro
  · exact True.intro⟩
theorem codeD_b {a b c : Int} {p : List Int} (h : codeB (codeD a b c p) = true) : 0 ≤ a ∧ 0 ≤ b ∧ 0 ≤ c ∧ p.length ≤ 2 := by
  simp [codeB, isI] at h
  omega
theorem caught_ok {n : Nat} {g : GH} {a b c t bn h : Int} {p : List Int} (hcode : codeB (codeD a b c p) = true) (ht : 1 ≤ t ∧ t ≤ 1000000000000000000000000000000) (hbn : 0 ≤ bn ∧ bn ≤ 20) (hh : 0 ≤ h ∧ h ≤ 20) (hp : pausesN p t ≤ t - 1) :
    wp (run (n+5) .caught [codeD a b c p, .int t, .int bn, .int h] g) (fun x g' => x = .bl (caughtI bn a b c (pausesN p t) (t - 1 - pausesN p t) h) ∧ App g g') F0 := by
  obtain ⟨ha, hb, hc, hl⟩ := codeD_b hcode
  show wp (runB (b_caught (run (n+4))) 4 _ g) _ _
  simp [b_caught]
  refine (need_all_ok (n := n) (r := g.length) (codeD_vl (by omega)) (by omega) hcode ht).use ?_
  rintro _ g1 ⟨rfl, A⟩
  rw [ltr_eq]
  have e1 := need_number_ok (n := n + 2) (r := g1.length) (m := 1) (g := g1) (d := .int bn) (lo := 0) (hi := 20) True.intro (by simp [isI, hbn])
  have e2 := need_number_ok (n := n + 2) (r := g1.length) (m := 1) (g := g1) (d := .int h) (lo := 0) (hi := 20) True.intro (by simp [isI, hh])
  simp [e1]
  rw [ltr_eq]
  simp [e2]
  rw [ltr_eq]
  simp
  refine (caught_so_ok (n := n + 1) (by omega) ha hb hc hbn.1 ⟨hh.1, by omega⟩ hp).imp ?_ fun _ _ z => z
  rintro _ g2 ⟨rfl, A2⟩
  exact ⟨rfl, A.trans A2⟩
/-- a number that is none -/
theorem caught_er {n r m : Nat} {g : GH} {a b c : Int} {p : List Int} {t bn h : D} (hm11 : m ≤ 10) (hcode : codeB (codeD a b c p) = true) (ht : Vl r g m t) (hbn : Vl r g m bn) (hh : Vl r g m h)
    (bad : isI t 1 1000000000000000000000000000000 = false ∨ (isI t 1 1000000000000000000000000000000 = true ∧ isI bn 0 20 = false) ∨ (isI t 1 1000000000000000000000000000000 = true ∧ isI bn 0 20 = true ∧ isI h 0 20 = false)) :
    wp (run (n+5) .caught [codeD a b c p, t, bn, h] g) (fun _ _ => False) (fun e g' => e = .own 2 ∧ App g g') := by
  obtain ⟨ha, hb, hc, hl⟩ := codeD_b hcode
  show wp (runB (b_caught (run (n+4))) 4 _ g) _ _
  simp [b_caught]
  rcases bad with b1 | ⟨b1, b2⟩ | ⟨b1, b2, b3⟩
  · exact (need_all_er (n := n) (Vl.up 3 (m + 3) _ (by omega) (codeD_vl (r := r) (by omega))) (by omega) hcode (Vl.up m (m+3) _ (by omega) ht) b1).imp (fun _ _ z => z.elim) fun _ _ z => z
  · obtain ⟨t, rfl, t1, t2⟩ := isI_int b1
    refine (need_all_ok (n := n) (r := g.length) (codeD_vl (by omega)) (by omega) hcode ⟨t1, t2⟩).imp ?_ fun _ _ z => z.elim
    rintro _ g1 ⟨rfl, A⟩
    rw [ltr_eq]
    simp [need_number_er (n := n + 2) (lo := 0) (hi := 20) (hbn.app A) b2]
    exact A
  · obtain ⟨t, rfl, t1, t2⟩ := isI_int b1
    refine (need_all_ok (n := n) (r := g.length) (codeD_vl (by omega)) (by omega) hcode ⟨t1, t2⟩).imp ?_ fun _ _ z => z.elim
    rintro _ g1 ⟨rfl, A⟩
    rw [ltr_eq]
    simp [need_number_ok (n := n + 2) (lo := 0) (hi := 20) (hbn.app A) b2]
    rw [ltr_eq]
    simp [need_number_er (n := n + 2) (lo := 0) (hi := 20) (hh.app A) b3]
    exact A

/-- what the law's playing out looks up: the stop, the bench, changes, windows, knocks, hurts -/
abbrev LSt := Int × Int × Int × Int × Int × Int
def leftD (b c w k h : Int) : D := .tup [.int b, .int c, .int w, .int k, .int h]
def stD : LSt → D
  | (s, b, c, w, k, h) => .tup [.int s, leftD b c w k h]
def stK : LSt → NestedKey
  | (s, b, c, w, k, h) => .tup [.num s, .tup [.num b, .num c, .num w, .num k, .num h]]
theorem stD_nk (st : LSt) : nk (stD st) = some (stK st) := by
  obtain ⟨s, b, c, w, k, h⟩ := st
  simp [stD, leftD, nk, nks, stK]
theorem stD_key (st : LSt) : keyD (stD st) = some (stK st) := by
  have e := stD_nk st
  obtain ⟨s, b, c, w, k, h⟩ := st
  have e2 : keyD (stD (s, b, c, w, k, h)) = (nk (stD (s, b, c, w, k, h))).bind fun key => if key.depth ≤ 8 then some key else none := rfl
  rw [e2, e]
  simp [stK, NestedKey.depth, NestedKey.depthAll]
theorem stK_inj {a b : LSt} (h : stK a = stK b) : a = b := by
  obtain ⟨s, b1, c, w, k, h1⟩ := a
  obtain ⟨s', b', c', w', k', h'⟩ := b
  simp [stK] at h
  simp [h]
/-- pause stops from stop on, t stops -/
def pcount (p : List Int) : Nat → Int → Nat
  | 0, _ => 0
  | t + 1, stop => (if stop ∈ p then 1 else 0) + pcount p t (stop + 1)
theorem pcount_le (p : List Int) : ∀ (t : Nat) (stop : Int), pcount p t stop ≤ t
  | 0, _ => Nat.le_refl _
  | t + 1, stop => by
    have := pcount_le p t (stop + 1)
    simp only [pcount]
    split <;> omega
def lostV (p : List Int) (ticks : Int) : LSt → Bool
  | (s, b, c, w, k, h) => caughtI b c w k (pcount p (ticks - s).toNat s) ((ticks - s).toNat - (pcount p (ticks - s).toNat s : Nat)) h
def InR : LSt → Prop
  | (s, b, c, w, k, h) => (0 ≤ s ∧ s ≤ 30) ∧ (0 ≤ b ∧ b ≤ 13) ∧ (0 ≤ c ∧ c ≤ 13) ∧ (0 ≤ w ∧ w ≤ 13) ∧ (0 ≤ k ∧ k ≤ 13) ∧ (0 ≤ h ∧ h ≤ 8)
def memoL (p : List Int) (ticks : Int) (L : List LSt) : List (D × D) := L.map fun st => (stD st, .bl (lostV p ticks st))
def Memo (p : List Int) (ticks : Int) (kvs : List (D × D)) : Prop := ∃ L : List LSt, kvs = memoL p ticks L ∧ L.Nodup ∧ ∀ st ∈ L, InR st
theorem memo_look (p : List Int) (ticks : Int) (st : LSt) : ∀ L : List LSt, lookK (memoL p ticks L) (stK st) = if st ∈ L then some (.bl (lostV p ticks st)) else none
  | [] => rfl
  | a :: L => by
    have ih := memo_look p ticks st L
    by_cases h : a = st
    · subst h
      simp [memoL, lookK, stD_nk]
    · have h2 : ¬ (stK a = stK st) := fun z => h (stK_inj z)
      have h3 : ¬ st = a := fun z => h z.symm
      simp only [memoL, List.map_cons, lookK, stD_nk, Option.some.injEq, h2, if_false, List.mem_cons, h3, false_or]
      exact ih
theorem memo_repl (p : List Int) (ticks : Int) (st : LSt) : ∀ L : List LSt, replK (stK st) (.bl (lostV p ticks st)) (memoL p ticks L) = memoL p ticks L
  | [] => rfl
  | a :: L => by
    have ih := memo_repl p ticks st L
    by_cases h : a = st
    · subst h
      simp [memoL, replK, stD_nk] at ih ⊢
      exact ih
    · have h2 : ¬ (stK a = stK st) := fun z => h (stK_inj z)
      simp only [memoL, List.map_cons, replK, stD_nk, Option.some.injEq, h2, if_false]
      simp only [memoL] at ih
      rw [ih]
theorem Memo.put {p : List Int} {ticks : Int} {kvs : List (D × D)} (M : Memo p ticks kvs) {st : LSt} (hr : InR st) : Memo p ticks (putD kvs (stK st) (stD st) (.bl (lostV p ticks st))) := by
  obtain ⟨L, rfl, nd, hin⟩ := M
  unfold putD
  rw [memo_look]
  by_cases h : st ∈ L
  · simp only [h, if_true, Option.isSome_some, memo_repl]
    exact ⟨L, rfl, nd, hin⟩
  · simp only [h, if_false, Option.isSome_none, Bool.false_eq_true]
    refine ⟨L ++ [st], by simp [memoL], ?_, fun x hx => ?_⟩
    · rw [List.nodup_append]
      refine ⟨nd, by simp, fun a ha b hb => ?_⟩
      simp at hb
      subst hb
      rintro rfl
      exact h ha
    · rcases List.mem_append.mp hx with hx | hx
      · exact hin x hx
      · simp at hx
        rw [hx]
        exact hr
def stN : LSt → Nat
  | (s, b, c, w, k, h) => ((((s.toNat * 14 + b.toNat) * 14 + c.toNat) * 14 + w.toNat) * 14 + k.toNat) * 9 + h.toNat
theorem mix9 {x y x' y' : Nat} (e : x * 9 + y = x' * 9 + y') (h : y < 9) (h' : y' < 9) : x = x' ∧ y = y' := by omega
theorem mix14 {x y x' y' : Nat} (e : x * 14 + y = x' * 14 + y') (h : y < 14) (h' : y' < 14) : x = x' ∧ y = y' := by omega
theorem nat_lt14 {a : Int} (ha : 0 ≤ a ∧ a ≤ 13) : a.toNat < 14 := by omega
theorem nat_eq9 {a b : Int} (ha : 0 ≤ a) (hb : 0 ≤ b) (e : a.toNat = b.toNat) : a = b := by omega
theorem nat_lt9 {a : Int} (ha : 0 ≤ a ∧ a ≤ 8) : a.toNat < 9 := by omega
theorem stN_inj {a b : LSt} (ha : InR a) (hb : InR b) (e : stN a = stN b) : a = b := by
  obtain ⟨s, b1, c, w, k, h1⟩ := a
  obtain ⟨s', b', c', w', k', h'⟩ := b
  obtain ⟨a0, a1, a2, a3, a4, a5⟩ := ha
  obtain ⟨b0, b1, b2, b3, b4, b5⟩ := hb
  obtain ⟨e, e5⟩ := mix9 e (nat_lt9 a5) (nat_lt9 b5)
  obtain ⟨e, e4⟩ := mix14 e (nat_lt14 a4) (nat_lt14 b4)
  obtain ⟨e, e3⟩ := mix14 e (nat_lt14 a3) (nat_lt14 b3)
  obtain ⟨e, e2⟩ := mix14 e (nat_lt14 a2) (nat_lt14 b2)
  obtain ⟨e, e1⟩ := mix14 e (nat_lt14 a1) (nat_lt14 b1)
  rw [nat_eq9 a0.1 b0.1 e, nat_eq9 a1.1 b1.1 e1, nat_eq9 a2.1 b2.1 e2, nat_eq9 a3.1 b3.1 e3, nat_eq9 a4.1 b4.1 e4, nat_eq9 a5.1 b5.1 e5]
theorem stN_lt {a : LSt} (ha : InR a) : stN a < 10800000 := by
  obtain ⟨s, b1, c, w, k, h1⟩ := a
  simp only [InR] at ha
  simp only [stN]
  omega
theorem nodup_lt : ∀ (n : Nat) (l : List Nat), l.Nodup → (∀ x ∈ l, x < n) → l.length ≤ n
  | 0, l, _, h => by
    cases l with
    | nil => simp
    | cons x l => exact absurd (h x (by simp)) (by omega)
  | n + 1, l, nd, h => by
    by_cases hn : n ∈ l
    · have h1 : (l.erase n).length = l.length - 1 := List.length_erase_of_mem hn
      have h2 := nodup_lt n (l.erase n) (nd.erase n) fun x hx => by
        have hx2 := (List.Nodup.mem_erase_iff nd).mp hx
        have := h x hx2.2
        have := hx2.1
        omega
      omega
    · have := nodup_lt n l nd fun x hx => by
        have := h x hx
        have : x ≠ n := fun z => hn (z ▸ hx)
        omega
      omega
theorem Memo.len {p : List Int} {ticks : Int} {kvs : List (D × D)} (M : Memo p ticks kvs) : kvs.length ≤ 10800000 := by
  obtain ⟨L, rfl, nd, hin⟩ := M
  have h := nodup_lt 10800000 (L.map stN) (by
    rw [List.nodup_iff_pairwise_ne, List.pairwise_map]
    refine List.Pairwise.imp_of_mem ?_ (List.nodup_iff_pairwise_ne.mp nd)
    intro a b ha hb hne e
    exact hne (stN_inj (hin a ha) (hin b hb) e)) fun x hx => by
    obtain ⟨a, ha, rfl⟩ := List.mem_map.mp hx
    exact stN_lt (hin a ha)
  simpa [memoL] using h
theorem Memo.nil (p : List Int) (ticks : Int) : Memo p ticks [] := ⟨[], rfl, List.nodup_nil, by simp⟩
theorem lostV_step {p : List Int} {ticks s b c w k h : Int} (hs : s < ticks) : lostV p ticks (s, b, c, w, k, h) =
    caughtI b c w k ((if s ∈ p then 1 else 0) + pcount p (ticks - (s + 1)).toNat (s + 1)) ((ticks - (s + 1)).toNat + 1 - ((if s ∈ p then 1 else 0) + pcount p (ticks - (s + 1)).toNat (s + 1))) h := by
  obtain ⟨t, ht⟩ : ∃ t, (ticks - s).toNat = t + 1 := ⟨(ticks - s).toNat - 1, by omega⟩
  have h2 : (ticks - (s + 1)).toNat = t := by omega
  simp only [lostV, ht, h2, pcount]
  congr 1
  · split <;> simp
  · split <;> simp <;> omega
theorem notIn_ints {Q : D → GH → Prop} {g : GH} (i : Int) (is : List Int) : wpo (opNotIn (.int i) (.tup (is.map .int)) g) Q = Q (.bl (!decide (i ∈ is))) g := by
  have e : toPy g 17 (.tup (is.map .int)) = some (.tuple (is.map .int)) := by rw [toPy_tup, py_ints is]; rfl
  have e2 : (is.map PyData.int).any (fun z => PyData.eqv z (.int i)) = decide (i ∈ is) := by
    induction is with
    | nil => rfl
    | cons j is ih =>
      simp only [List.map_cons, List.any_cons, List.mem_cons]
      have e3 : PyData.eqv (.int j) (.int i) = decide (i = j) := by
        rw [PyData.eqv]
        by_cases h : i = j
        · simp [h]
        · simp [h, show ¬ j = i from fun z => h z.symm]
      rw [e3]
      have ih2 : (is.map PyData.int).any (fun z => PyData.eqv z (.int i)) = decide (i ∈ is) := by
        clear e e3
        induction is with
        | nil => rfl
        | cons j is ih' => exact ih (by rw [toPy_tup, py_ints (j :: is)]; rfl)
      rw [ih2]
      by_cases h : i = j <;> simp [h]
  simp only [opNotIn, itemsOf, e, toPy_int, e2, wpo_some]

theorem step_bad {b c w k P Q h i : Int} (hi : i = 0 ∨ i = 1) (h0 : caughtI b c w k P Q h = true) : caughtI b c w k (i + P) (1 - i + Q) h = true := by
  simp [caughtI] at *
  omega
theorem step_none {b c w k P Q h : Int} (hb : 0 ≤ b) (hc : 0 ≤ c) (hw : 0 ≤ w) (hk : 0 ≤ k) (hP : 0 ≤ P) (hQ : 0 ≤ Q) (hh : h = 0) : caughtI b c w k P Q h = false := by
  simp [caughtI]
  omega
theorem step_main {b c w k P Q h i : Int} (hb : 0 ≤ b) (hc : 0 ≤ c) (hw : 0 ≤ w) (hk : 0 ≤ k) (hP : 0 ≤ P) (hQ : 0 ≤ Q) (hi : i = 0 ∨ i = 1) (h0 : caughtI b c w k P Q h = false) (hh : 0 < h) {good : Bool}
    (hg : good = true ↔ (0 < b ∧ 0 < k ∧ caughtI (b - 1) c w (k - 1) P Q (h - 1) = false) ∨ (0 < b ∧ 0 < c ∧ 1 - i ≤ w ∧ caughtI (b - 1) (c - 1) (w - (1 - i)) k P Q (h - 1) = false)) : (!good) = caughtI b c w k (i + P) (1 - i + Q) h := by
  rw [Bool.eq_iff_iff]
  cases good
  · simp only [Bool.not_false, true_iff]
    simp only [Bool.false_eq_true, false_iff] at hg
    simp [caughtI] at *
    rcases hi with rfl | rfl <;> omega
  · simp only [true_iff] at hg
    simp only [Bool.not_true, Bool.false_eq_true, false_iff]
    simp [caughtI] at *
    rcases hi with rfl | rfl <;> omega
theorem lost_ok {a0 b0 c0 : Int} {p : List Int} {q : Nat} {ticks : Int} {n : Nat} (hticks : ticks ≤ 30) : ∀ (t : Nat) (s b c w k h : Int) (g : GH) (kvs : List (D × D)), ticks - s = t → InR (s, b, c, w, k, h) → g[q]? = some (.dct kvs) → Memo p ticks kvs →
    wp (run (n+(t+1)) .law_lost [codeD a0 b0 c0 p, .int ticks, .int s, leftD b c w k h, .ref q] g) (fun d g' => d = .bl (lostV p ticks (s, b, c, w, k, h)) ∧ Kp q g g' ∧ ∃ kvs', g'[q]? = some (.dct kvs') ∧ Memo p ticks kvs') F0
  | 0, s, b, c, w, k, h, g, kvs, ht, hr, hg, M => by
    show wp (runB (b_law_lost (run (n+0))) 15 _ g) _ _
    have h1 : ticks ≤ s := by omega
    have hv : lostV p ticks (s, b, c, w, k, h) = false := by
      have e : (ticks - s).toNat = 0 := by omega
      simp only [InR] at hr
      simp only [lostV, e, pcount]
      exact caught_zero (by omega) (by omega) (by omega) (by omega) rfl rfl (by omega)
    simp [b_law_lost, h1]
    rw [ltr_eq]
    simp [hv]
    exact ⟨Kp.refl _ _, kvs, hg, M⟩
  | t + 1, s, b, c, w, k, h, g, kvs, ht, hr, hg, M => by
    have hrr := hr
    simp only [InR] at hrr
    have h1 : ¬ ticks ≤ s := by omega
    have vs := lostV_step (p := p) (b := b) (c := c) (w := w) (k := k) (h := h) (show s < ticks by omega)
    have e1 : (ticks - (s + 1)).toNat = t := by omega
    rw [e1] at vs
    have hP := pcount_le p t (s + 1)
    have next : ∀ b c w k h, InR (s, b, c, w, k, h) → InR (s + 1, b, c, w, k, h) ∧ lostV p ticks (s + 1, b, c, w, k, h) = caughtI b c w k (pcount p t (s + 1)) (t - (pcount p t (s + 1) : Nat)) h := fun b c w k h z => by
      simp only [InR] at z ⊢
      exact ⟨by omega, by simp only [lostV, e1]⟩
    show wp (runB (b_law_lost (run (n+(t+1)))) 15 _ g) _ _
    simp [b_law_lost, h1]
    rw [ltr_eq]
    simp
    rw [ltr_eq]
    simp
    rw [ltr_eq, wps_sSeq]
    have key : keyD (.tup [.int s, leftD b c w k h]) = some (stK (s, b, c, w, k, h)) := stD_key (s, b, c, w, k, h)
    generalize hT : Ltr (sRet _) _ = T
    have fin : ∀ g1 kvs1 o6 o7 o8 o9 o10 o11 o12 o13 o14, g1[q]? = some (.dct kvs1) → Memo p ticks kvs1 → lookK kvs1 (stK (s, b, c, w, k, h)) = some (.bl (lostV p ticks (s, b, c, w, k, h))) → Kp q g g1 →
        T [some (codeD a0 b0 c0 p), some (.int ticks), some (.int s), some (leftD b c w k h), some (.ref q), some (.tup [.int s, leftD b c w k h]), o6, o7, o8, o9, o10, o11, o12, o13, o14] g1 := fun g1 kvs1 o6 o7 o8 o9 o10 o11 o12 o13 o14 hg1 M1 hl K1 => by
      rw [← hT, ltr_eq]
      simp
      rw [ix_dic hg1 key]
      simp [hl]
      exact ⟨K1, kvs1, hg1, M1⟩
    obtain ⟨L, hL, nd, hin⟩ := id M
    have look := memo_look p ticks (s, b, c, w, k, h) L
    by_cases hm : (s, b, c, w, k, h) ∈ L
    · simp only [hm, if_true] at look
      rw [← hL] at look
      simp
      rw [notIn_dic hg key, look]
      simp
      rw [ltr_eq]
      simp
      exact fin g kvs _ _ _ _ _ _ _ _ _ hg M look (Kp.refl _ _)
    · simp only [hm, if_false] at look
      rw [← hL] at look
      simp
      rw [notIn_dic hg key, look]
      simp
      rw [ltr_eq]
      simp [leftD, setR]
      rw [ltr_eq]
      simp
      obtain ⟨r0, v0⟩ := next b c w k h hr
      refine (lost_ok hticks t (s + 1) b c w k h g kvs (by omega) r0 hg M).use ?_
      rintro _ g1 ⟨rfl, K1, kvs1, hg1, M1⟩
      rw [v0]
      rw [ltr_eq, wps_sSeq]
      generalize hT2 : Ltr (sSetIx _ _ _ _) _ = T2
      have put : ∀ g2 kvs2 v o6 o7 o8 o9 o10 o12 o13 o14, v = lostV p ticks (s, b, c, w, k, h) → g2[q]? = some (.dct kvs2) → Memo p ticks kvs2 → Kp q g g2 →
          T2 [some (codeD a0 b0 c0 p), some (.int ticks), some (.int s), some (.tup [.int b, .int c, .int w, .int k, .int h]), some (.ref q), some (.tup [.int s, .tup [.int b, .int c, .int w, .int k, .int h]]), o6, o7, o8, o9, o10, some (.bl v), o12, o13, o14] g2 := fun g2 kvs2 v o6 o7 o8 o9 o10 o12 o13 o14 hv hg2 M2 K2 => by
        rw [← hT2, ltr_eq]
        subst hv
        have key2 : keyD (.tup [.int s, .tup [.int b, .int c, .int w, .int k, .int h]]) = some (stK (s, b, c, w, k, h)) := key
        have hlen := M2.len
        have hq : q < g2.length := (List.getElem?_eq_some_iff.mp hg2).1
        simp [set_dic hg2 key2 (by omega)]
        refine fin (g2.set q (.dct (putD kvs2 (stK (s, b, c, w, k, h)) (stD (s, b, c, w, k, h)) (.bl (lostV p ticks (s, b, c, w, k, h)))))) _ _ _ _ _ _ _ _ _ _ (by simp [hq]) (M2.put hr) ?_ (K2.trans (Kp.set _))
        rw [look_put (stD_nk _)]
        simp
      obtain ⟨i, hi, hvi, hic⟩ : ∃ i : Int, (i = 0 ∨ i = 1) ∧ lostV p ticks (s, b, c, w, k, h) = caughtI b c w k (i + (pcount p t (s + 1) : Nat)) (1 - i + (t - (pcount p t (s + 1) : Nat))) h ∧ (if (!decide (s ∈ p)) = true then (1 : Int) else 0) = 1 - i := by
        by_cases hs : s ∈ p
        · exact ⟨1, .inr rfl, by rw [vs]; simp only [hs, if_true]; congr 1; omega, by simp [hs]⟩
        · exact ⟨0, .inl rfl, by rw [vs]; simp only [hs, if_false]; congr 1; omega, by simp [hs]⟩
      have hQ0 : (0 : Int) ≤ t - (pcount p t (s + 1) : Nat) := by omega
      have hP0 : (0 : Int) ≤ (pcount p t (s + 1) : Nat) := by omega
      generalize (t : Int) - (pcount p t (s + 1) : Nat) = Q' at hvi hQ0 next v0
      generalize ((pcount p t (s + 1) : Nat) : Int) = P' at hvi hP0 next v0
      by_cases hh : 0 < h
      · cases hb0 : caughtI b c w k P' Q' h with
        | true =>
          simp [hh]
          rw [ltr_eq]
          simp
          exact put g1 kvs1 true _ _ _ _ _ _ _ _ (by rw [hvi, step_bad hi hb0]) hg1 M1 K1
        | false =>
          simp [hh]
          rw [ltr_eq]
          simp
          rw [notIn_ints, int_bl, hic]
          rw [ltr_eq, wps_sSeq]
          generalize hT3 : Ltr (sSeq _ _) _ = T3
          have tail : ∀ g2 kvs2 (good : Bool) o14, (good = true ↔ (0 < b ∧ 0 < k ∧ caughtI (b - 1) c w (k - 1) P' Q' (h - 1) = false)) → g2[q]? = some (.dct kvs2) → Memo p ticks kvs2 → Kp q g g2 →
              T3 [some (codeD a0 b0 c0 p), some (.int ticks), some (.int s), some (.tup [.int b, .int c, .int w, .int k, .int h]), some (.ref q), some (.tup [.int s, .tup [.int b, .int c, .int w, .int k, .int h]]), some (.int b), some (.int c), some (.int w), some (.int k), some (.int h), some (.bl false), some (.int (1 - i)), some (.bl good), o14] g2 := fun g2 kvs2 good o14 hgood hg2 M2 K2 => by
            rw [← hT3, ltr_eq, wps_sSeq]
            generalize hT4 : Ltr (sAsg _ _) _ = T4
            have last : ∀ g2 kvs2 (good : Bool) o14, (good = true ↔ (0 < b ∧ 0 < k ∧ caughtI (b - 1) c w (k - 1) P' Q' (h - 1) = false) ∨ (0 < b ∧ 0 < c ∧ 1 - i ≤ w ∧ caughtI (b - 1) (c - 1) (w - (1 - i)) k P' Q' (h - 1) = false)) → g2[q]? = some (.dct kvs2) → Memo p ticks kvs2 → Kp q g g2 →
              T4 [some (codeD a0 b0 c0 p), some (.int ticks), some (.int s), some (.tup [.int b, .int c, .int w, .int k, .int h]), some (.ref q), some (.tup [.int s, .tup [.int b, .int c, .int w, .int k, .int h]]), some (.int b), some (.int c), some (.int w), some (.int k), some (.int h), some (.bl false), some (.int (1 - i)), some (.bl good), o14] g2 := fun g2 kvs2 good o14 hgood hg2 M2 K2 => by
              rw [← hT4, ltr_eq]
              simp [-Bool.exists_bool]
              exact put g2 kvs2 (!good) _ _ _ _ _ _ _ _ (by rw [hvi]; exact step_main (by omega) (by omega) (by omega) (by omega) hP0 hQ0 hi hb0 hh hgood) hg2 M2 K2
            by_cases cnd : 0 < b ∧ 0 < c ∧ 1 - i ≤ w ∧ good = false
            · obtain ⟨c1, c2, c3, c4⟩ := cnd
              subst c4
              simp [c1, c2, c3]
              rw [ltr_eq]
              simp
              rw [ltr_eq]
              simp [-Bool.exists_bool]
              obtain ⟨r1, v1⟩ := next (b - 1) (c - 1) (w - (1 - i)) k (h - 1) (by simp only [InR]; omega)
              refine (lost_ok hticks t (s + 1) (b - 1) (c - 1) (w - (1 - i)) k (h - 1) g2 kvs2 (by omega) r1 hg2 M2).use ?_
              rintro _ g3 ⟨rfl, K3, kvs3, hg3, M3⟩
              refine ⟨_, rfl, ?_⟩
              rw [v1]
              refine last g3 kvs3 _ _ ?_ hg3 M3 (K2.trans K3)
              simp at hgood
              simp [c1, c2, c3]
              intro z1 z2
              rw [hgood c1 z1] at z2
              cases z2
            · have go : T4 [some (codeD a0 b0 c0 p), some (.int ticks), some (.int s), some (.tup [.int b, .int c, .int w, .int k, .int h]), some (.ref q), some (.tup [.int s, .tup [.int b, .int c, .int w, .int k, .int h]]), some (.int b), some (.int c), some (.int w), some (.int k), some (.int h), some (.bl false), some (.int (1 - i)), some (.bl good), o14] g2 := last g2 kvs2 good o14 (by
                rw [hgood]
                constructor
                · exact fun z => .inl z
                · rintro (z | ⟨z1, z2, z3, z4⟩)
                  · exact z
                  · cases good with
                    | true => exact hgood.mp rfl
                    | false => exact absurd ⟨z1, z2, z3, rfl⟩ cnd) hg2 M2 K2
              by_cases c1 : 0 < b
              · by_cases c2 : 0 < c
                · by_cases c3 : 1 - i ≤ w
                  · have c4 : good = true := by
                      cases good with
                      | true => rfl
                      | false => exact absurd ⟨c1, c2, c3, rfl⟩ cnd
                    subst c4
                    simp [c1, c2, c3]
                    rw [ltr_eq]
                    exact go
                  · simp [c1, c2, c3]
                    rw [ltr_eq]
                    exact go
                · simp [c1, c2]
                  rw [ltr_eq]
                  exact go
              · simp [c1]
                rw [ltr_eq]
                exact go
          by_cases cnd : 0 < b ∧ 0 < k
          · obtain ⟨c1, c2⟩ := cnd
            simp [c1, c2]
            rw [ltr_eq]
            simp
            rw [ltr_eq]
            simp [-Bool.exists_bool]
            obtain ⟨r1, v1⟩ := next (b - 1) c w (k - 1) (h - 1) (by simp only [InR]; omega)
            refine (lost_ok hticks t (s + 1) (b - 1) c w (k - 1) (h - 1) g1 kvs1 (by omega) r1 hg1 M1).use ?_
            rintro _ g3 ⟨rfl, K3, kvs3, hg3, M3⟩
            refine ⟨_, rfl, ?_⟩
            rw [v1]
            refine tail g3 kvs3 _ _ ?_ hg3 M3 (K1.trans K3)
            simp [c1, c2]
          · have go := tail g1 kvs1 false none (by simp; intro z1 z2; exact absurd ⟨z1, z2⟩ cnd) hg1 M1 K1
            by_cases c1 : 0 < b
            · have c2 : ¬ 0 < k := fun z => cnd ⟨c1, z⟩
              simp [c1, c2]
              rw [ltr_eq]
              exact go
            · simp [c1]
              rw [ltr_eq]
              exact go
      · have h0 : h = 0 := by omega
        have hb0 : caughtI b c w k P' Q' h = false := step_none (by omega) (by omega) (by omega) (by omega) hP0 hQ0 h0
        simp [hh]
        rw [ltr_eq]
        simp
        rw [hb0]
        exact put g1 kvs1 false _ _ _ _ _ _ _ _ (by rw [hvi, step_none (by omega) (by omega) (by omega) (by omega) (by omega) (by omega) h0]) hg1 M1 K1

theorem flask_ok {n : Nat} {d : D} {ns : List Int} {k : Int} {g : GH} (h : lstOf g d = some (ns.map D.int)) (h0 : 0 ≤ k) (h1 : k ≤ 1000) :
    wp (run (n+1) .law_flask_of [d, .int k] g) (fun r g' => r = .ref g.length ∧ App g g' ∧ Fk g.length g' ∧ g'.length = g.length + 1) F0 := by
  show wp (runB (b_law_flask_of (run n)) 3 _ g) _ _
  have e1 : k.natAbs + (37003 : Int).natAbs < 1000000 := by omega
  have e2 := lg_small e1
  have e3 := lg_small (show k.natAbs + (149 : Int).natAbs < 1000000 by omega)
  have tail : ∀ c : Int, 0 ≤ c → Ltr (sRet (eLst (aCons (eIf (tB3 (eBin opGe (eVar 2) (eBin opPow (eC (.int 10)) (eC (.int 18))))) (eVar 2) (eC (.int 0))) (aCons (eBin opAdd (eBin opMod (eBi fInt (aCons (eBin opAdd (eBin opAdd (eBin opMul (eBin opMod (eVar 2) (eC (.int 2147482577))) (eC (.int 59))) (eBin opMul (eC (.int 149)) (eVar 1))) (eC (.int 97))) aNil)) (eC (.int 2147482577))) (eC (.int 1))) aNil)))) { nx := fun x g => False, rt := fun r g' => r = .ref g.length ∧ App g g' ∧ Fk g.length g' ∧ g'.length = g.length + 1, bk := fun x g => False, ct := fun x g => False, er := F0 } [some d, some (.int k), some (.int c)] g := fun c hc => by
    rw [ltr_eq]
    have q1 := Int.emod_nonneg c (b := 2147482577) (by omega)
    have q2 := Int.emod_lt_of_pos c (b := 2147482577) (by omega)
    have e4 : (c % 2147482577).natAbs.log2 + Nat.log2 59 < 1000000 := lg_mid (j := 59) ⟨by omega, by omega⟩ (by decide)
    have e5 : Nat.log2 149 + k.natAbs.log2 < 1000000 := by rw [Nat.add_comm]; exact e3
    generalize hq : c % 2147482577 * 59 + 149 * k + 97 = q
    have p1 := Int.emod_nonneg q (b := 2147482577) (by omega)
    have p2 := Int.emod_lt_of_pos q (b := 2147482577) (by omega)
    simp [e4, e5, hq]
    have fin : ∀ a : Int, 0 ≤ a → App g (g ++ [.lst [.int a, .int (q % 2147482577 + 1)]]) ∧ Fk g.length (g ++ [.lst [.int a, .int (q % 2147482577 + 1)]]) := fun a ha => ⟨App.one _ _, a, _, get_end _ _, ha, by omega, by omega⟩
    rcases Int.lt_or_le c 1000000000000000000 with z | z
    · exact .inl ⟨z, fin 0 (by omega)⟩
    · exact .inr ⟨z, fin c hc⟩
  simp [b_law_flask_of]
  refine ⟨by rw [Nat.add_comm]; exact e2, ?_⟩
  rw [ltr_eq]
  rcases Int.lt_or_le k (ns.length : Int) with hk | hk
  · simp [len_lst h, hk]
    rw [ltr_eq]
    obtain ⟨x, e, hx⟩ := atI_mem (xs := ns.map D.int) h0 (by simpa using hk)
    obtain ⟨i, _, rfl⟩ := List.mem_map.mp hx
    simp [ix_lst h, e]
    refine ⟨by decide +kernel, by decide +kernel, by decide +kernel, tail _ (Int.emod_nonneg _ (by omega))⟩
  · have hk' : ¬ k < (ns.length : Int) := by omega
    simp [len_lst h, hk']
    rw [ltr_eq]
    rcases Nat.eq_zero_or_pos ns.length with z | z
    · have z' : ¬ 0 < ns.length := by omega
      simp [len_lst h, z']
      rw [ltr_eq]
      exact tail _ (by omega)
    · simp [len_lst h, z]
      rw [ltr_eq]
      obtain ⟨x, e, hx⟩ := atI_mem (xs := ns.map D.int) (i := 0) (by omega) (by simpa using z)
      obtain ⟨i, _, rfl⟩ := List.mem_map.mp hx
      simp [ix_lst h, e]
      have := Int.emod_nonneg (if i < 0 then -i else i) (b := 1000291) (by omega)
      exact tail _ (by omega)

def intsFrom (a : Int) (n : Nat) : List Int := (List.range n).map fun (k : Nat) => a + (k : Int)
theorem rangeD_ints (a b : Int) : rangeD a b = (intsFrom a (b - a).toNat).map D.int := by
  simp [rangeD, intsFrom, Function.comp_def]
theorem intsFrom_cons (a : Int) (n : Nat) : intsFrom a (n + 1) = a :: intsFrom (a + 1) n := by
  simp only [intsFrom, List.range_succ_eq_map, List.map_cons, List.map_map]
  congr 1
  · simp
  · apply List.map_congr_left
    intro k _
    simp [Function.comp_def]
    omega
theorem find_some {f : Int → Bool} : ∀ (n : Nat) (a i : Int), a ≤ i → i < a + n → f i = true → (∀ j, a ≤ j → j < i → f j = false) → (intsFrom a n).find? f = some i
  | 0, a, i, h1, h2, _, _ => by omega
  | n + 1, a, i, h1, h2, h3, h4 => by
    rw [intsFrom_cons]
    by_cases h : a = i
    · subst h
      simp [h3]
    · have := h4 a (by omega) (by omega)
      simp only [List.find?_cons, this]
      exact find_some n (a + 1) i (by omega) (by omega) h3 fun j h5 h6 => h4 j (by omega) h6
theorem find_none {f : Int → Bool} : ∀ (n : Nat) (a : Int), (∀ j, a ≤ j → j < a + n → f j = false) → (intsFrom a n).find? f = none
  | 0, a, _ => rfl
  | n + 1, a, h => by
    rw [intsFrom_cons]
    have := h a (by omega) (by omega)
    simp only [List.find?_cons, this]
    exact find_none n (a + 1) fun j h5 h6 => h j (by omega) (by omega)
/-- None or a number -/
def optD : Option Int → D
  | some i => .int i
  | none => .non
theorem most_ok {n : Nat} {g : GH} {a b c t bn : Int} {p : List Int} (hcode : codeB (codeD a b c p) = true) (ht : 1 ≤ t ∧ t ≤ 1000000000000000000000000000000) (hbn : 0 ≤ bn ∧ bn ≤ 20) (hp : pausesN p t ≤ t - 1) :
    wp (run (n+5) .most_hurts [codeD a b c p, .int t, .int bn] g) (fun x g' => x = optD (((intsFrom 1 21).find? fun h => caughtI bn a b c (pausesN p t) (t - 1 - pausesN p t) h).map fun h => h - 1) ∧ App g g') F0 := by
  obtain ⟨ha, hb, hc, hl⟩ := codeD_b hcode
  show wp (runB (b_most_hurts (run (n+4))) 4 _ g) _ _
  simp [b_most_hurts]
  refine (need_all_ok (n := n) (r := g.length) (codeD_vl (by omega)) (by omega) hcode ht).use ?_
  rintro _ g1 ⟨rfl, A⟩
  rw [ltr_eq]
  have e1 := need_number_ok (n := n + 2) (r := g1.length) (m := 1) (g := g1) (d := .int bn) (lo := 0) (hi := 20) True.intro (by simp [isI, hbn])
  simp [e1]
  rw [ltr_eq]
  simp
  refine wps_rng (fun i ρ g' => App g g' ∧ (∃ o3, ρ = [some (codeD a b c p), some (.int t), some (.int bn), o3]) ∧ ∀ j, 1 ≤ j → j < i → caughtI bn a b c (pausesN p t) (t - 1 - pausesN p t) j = false) (by omega) ?_ ?_ _ _ ⟨A, ⟨none, rfl⟩, fun j _ _ => by omega⟩
  · rintro i ρ g' i1 i2 ⟨A', ⟨o3, rfl⟩, hj⟩
    simp [b_most_hurts_1]
    refine (caught_so_ok (n := n + 1) (by omega) ha hb hc hbn.1 ⟨by omega, by omega⟩ hp).use ?_
    rintro _ g2 ⟨rfl, A2⟩
    cases hi : caughtI bn a b c (pausesN p t) (t - 1 - pausesN p t) i with
    | false =>
      simp
      rw [ltr_eq]
      simp
      refine ⟨A'.trans A2, fun j j1 j2 => ?_⟩
      by_cases e : j = i
      · rw [e, hi]
      · exact hj j j1 (by omega)
    | true =>
      simp
      rw [ltr_eq]
      simp
      rw [find_some 21 1 i i1 (by omega) hi hj]
      exact ⟨rfl, A'.trans A2⟩
  · rintro ρ g' ⟨A', ⟨o3, rfl⟩, hj⟩
    dsimp only
    rw [ltr_eq]
    simp
    rw [find_none 21 1 fun j h1 h2 => hj j h1 (by omega)]
    exact ⟨rfl, A'⟩
theorem filter_D (f : Int → Bool) : ∀ xs : List Int, (xs.map D.int).filterMap (fun x => match x with | .int i => if f i then some (.int i) else none | _ => none) = (xs.filter f).map D.int
  | [] => rfl
  | x :: xs => by
    have ih := filter_D f xs
    by_cases h : f x = true
    · simp [h] at ih ⊢
      exact ih
    · simp [h] at ih ⊢
      exact ih
/-- the first of a list, or None -/
def headD (xs : List Int) : D := optD xs.head?
theorem hurts_least_ok {n : Nat} {g : GH} {a b c t h : Int} {p : List Int} (hcode : codeB (codeD a b c p) = true) (hh : 0 ≤ h ∧ h ≤ 20) (hp : pausesN p t ≤ t - 1) :
    wp (run (n+4) .hurts_least [codeD a b c p, .int t, .int h] g) (fun x g' => x = headD ((intsFrom 0 21).filter fun bn => !caughtI bn a b c (pausesN p t) (t - 1 - pausesN p t) h) ∧ App g g') F0 := by
  obtain ⟨ha, hb, hc, hl⟩ := codeD_b hcode
  show wp (runB (b_hurts_least (run (n+3))) 5 _ g) _ _
  simp [b_hurts_least, wipeR]
  refine ⟨by simp [rangeD_len], comp_app (fun x => match x with | .int i => if (!caughtI i a b c (pausesN p t) (t - 1 - pausesN p t) h) then some (.int i) else none | _ => none) (rangeD 0 21) (fun _ _ => rfl) (fun x hx g' A => ⟨_, rfl, ?_⟩) _ fun g' A => ?_⟩
  · obtain ⟨i, hi, rfl⟩ := List.mem_map.mp hx
    simp
    refine (caught_so_ok (n := n) (by omega) ha hb hc (by omega) ⟨hh.1, by omega⟩ hp).imp ?_ fun _ _ z => z
    rintro _ g2 ⟨rfl, A2⟩
    cases hi : caughtI (i : Int) a b c (pausesN p t) (t - 1 - pausesN p t) h <;> simp [A2, App.refl]
  · rw [rangeD_ints, filter_D]
    have e21 : ((21 : Int) - 0).toNat = 21 := rfl
    rw [e21]
    generalize List.filter (fun i => !caughtI i a b c (pausesN p t) (t - 1 - pausesN p t) h) (intsFrom 0 21) = L
    rw [ltr_eq]
    cases L with
    | nil =>
      simp
      rw [ne_nil (ds := []) (by simp) (by simp) (by simp)]
      simp
      exact ⟨rfl, A.trans ⟨_, rfl⟩⟩
    | cons x xs =>
      simp
      rw [ne_nil (ds := (x :: xs).map D.int) (by simp) (by simp) (fun y hy => by
        obtain ⟨i, _, rfl⟩ := List.mem_map.mp hy
        exact ⟨_, toPy_int⟩)]
      simp [ix_refs]
      exact ⟨rfl, A.trans ⟨_, rfl⟩⟩
theorem least_ok {n : Nat} {g : GH} {a b c t h : Int} {p : List Int} (hcode : codeB (codeD a b c p) = true) (ht : 1 ≤ t ∧ t ≤ 1000000000000000000000000000000) (hh : 0 ≤ h ∧ h ≤ 20) (hp : pausesN p t ≤ t - 1) :
    wp (run (n+5) .least_bench [codeD a b c p, .int t, .int h] g) (fun x g' => x = headD ((intsFrom 0 21).filter fun bn => !caughtI bn a b c (pausesN p t) (t - 1 - pausesN p t) h) ∧ App g g') F0 := by
  obtain ⟨ha, hb, hc, hl⟩ := codeD_b hcode
  show wp (runB (b_least_bench (run (n+4))) 3 _ g) _ _
  simp [b_least_bench]
  refine (need_all_ok (n := n) (r := g.length) (codeD_vl (by omega)) (by omega) hcode ht).use ?_
  rintro _ g1 ⟨rfl, A⟩
  rw [ltr_eq]
  have e1 := need_number_ok (n := n + 2) (r := g1.length) (m := 1) (g := g1) (d := .int h) (lo := 0) (hi := 20) True.intro (by simp [isI, hh])
  simp [e1]
  rw [ltr_eq]
  simp
  refine (hurts_least_ok (n := n) hcode hh hp).imp ?_ fun _ _ z => z
  rintro _ g2 ⟨rfl, A2⟩
  exact ⟨rfl, A.trans A2⟩

theorem atI_last {α : Type} (xs : List α) (x : α) : atI (xs ++ [x]) (-1) = some x := by
  have e : ixN (xs ++ [x]).length (-1) = some xs.length := by
    unfold ixN
    rw [if_neg (by omega), if_pos (by simp; omega)]
    simp
    omega
  unfold atI
  rw [e]
  simp
def mendOne (w : Str) (f : Int → Bool) (n : Nat) : List D := match (intsFrom 0 n).find? f with
  | some m => [.tup [.str w, .int m]]
  | none => []
theorem intsFrom_snoc (a : Int) (n : Nat) : intsFrom a (n + 1) = intsFrom a n ++ [a + (n : Int)] := by
  simp [intsFrom, List.range_succ]
theorem find_snoc (f : Int → Bool) (n : Nat) : (intsFrom 0 (n + 1)).find? f = match (intsFrom 0 n).find? f with
  | some m => some m
  | none => if f n then some (n : Int) else none := by
  rw [intsFrom_snoc, List.find?_append]
  cases (intsFrom 0 n).find? f with
  | some m => rfl
  | none =>
    by_cases h : f n = true
    · simp [h]
    · simp [h]
/-- a word and a number -/
def WM (w : Str) (x : D) : Prop := ∃ (w' : Str) (m : Int), x = .tup [.str w', .int m] ∧ PyData.strOk w' = true ∧ (w' == w) = false
def WM0 (x : D) : Prop := ∃ (w' : Str) (m : Int), x = .tup [.str w', .int m] ∧ PyData.strOk w' = true
theorem WM0.py {x : D} (h : WM0 x) (g : GH) : ∃ p, toPy g 15 x = some p := by
  obtain ⟨w, m, rfl, hw⟩ := h
  have e : ([D.str w, D.int m]).mapM (toPy g 14) = some [.str w, .int m] := by
    simp only [List.mapM_cons, List.mapM_nil, toPy_str (g := g) (n := 13) hw, toPy_int]
    rfl
  exact ⟨.tuple [.str w, .int m], by rw [toPy_tup, e]; rfl⟩
theorem mends_in {n : Nat} {g : GH} {K : Kt} {a b c t bn h P Q : Int} {p : List Int} {q : Nat} {done : List D} {w : Str} {b0 b1 b2 b3 : Bool} {o8 o9 : Option D} (hw : PyData.strOk w = true)
    (e0 : (w == "bench") = b0) (e1 : (w == "changes") = b1) (e2 : (w == "knocks") = b2) (e3 : (w == "windows") = b3) (ha : 0 ≤ a ∧ a ≤ 100) (hb : 0 ≤ b ∧ b ≤ 100) (hc : 0 ≤ c ∧ c ≤ 100) (hbn : 0 ≤ bn) (hh : 0 ≤ h ∧ h ≤ 1000) (hP : 0 ≤ P) (hQ : 0 ≤ Q)
    (hd : ∀ x ∈ done, WM w x) (hl : done.length ≤ 1000) (hq : g[q]? = some (.lst done))
    (hK : ∀ g' o8 o9, Kp q g g' → g'[q]? = some (.lst (done ++ mendOne w (fun m => !caughtI (bn + m * (if b0 = true then 1 else 0)) (a + m * (if b1 = true then 1 else 0)) (b + m * (if b3 = true then 1 else 0)) (c + m * (if b2 = true then 1 else 0)) P Q h) 21)) →
      K.nx [some (codeD a b c p), some (.int t), some (.int bn), some (.int h), some (.int P), some (.int Q), some (.ref q), some (.str w), o8, o9] g') :
    wps (b_mends_2 (run (n+2)) [some (codeD a b c p), some (.int t), some (.int bn), some (.int h), some (.int P), some (.int Q), some (.ref q), some (.str w), o8, o9] g) K := by
  generalize hf : (fun m => !caughtI (bn + m * (if b0 = true then 1 else 0)) (a + m * (if b1 = true then 1 else 0)) (b + m * (if b3 = true then 1 else 0)) (c + m * (if b2 = true then 1 else 0)) P Q h) = f at hK
  simp [b_mends_2]
  refine wps_rng (fun i ρ g' => Kp q g g' ∧ (∃ o8 o9, ρ = [some (codeD a b c p), some (.int t), some (.int bn), some (.int h), some (.int P), some (.int Q), some (.ref q), some (.str w), o8, o9]) ∧ g'[q]? = some (.lst (done ++ mendOne w f i.toNat))) (by omega) ?_ ?_ _ _ ⟨Kp.refl _ _, ⟨_, _, rfl⟩, by simpa [mendOne, intsFrom] using hq⟩
  · rintro i ρ g' i0 i1 ⟨K1, ⟨o8, o9, rfl⟩, hq1⟩
    rw [wps_stepOf]
    simp only [List.set_cons_succ, List.set_cons_zero]
    obtain ⟨k, rfl⟩ := Int.eq_ofNat_of_zero_le i0
    have lgs : ∀ z : Bool, (k : Int).natAbs.log2 + (if z = true then (1 : Int) else 0).natAbs.log2 < 1000000 := fun z => lg_small (by cases z <;> simp <;> omega)
    have s0 : ∀ (g : GH) (Q : D → GH → Prop), wpo (opEq (.str w) (.str "bench") g) Q = Q (.bl b0) g := fun g Q => by rw [eq_str hw (by decide +kernel), e0]
    have s1 : ∀ (g : GH) (Q : D → GH → Prop), wpo (opEq (.str w) (.str "changes") g) Q = Q (.bl b1) g := fun g Q => by rw [eq_str hw (by decide +kernel), e1]
    have s2 : ∀ (g : GH) (Q : D → GH → Prop), wpo (opEq (.str w) (.str "knocks") g) Q = Q (.bl b2) g := fun g Q => by rw [eq_str hw (by decide +kernel), e2]
    have s3 : ∀ (g : GH) (Q : D → GH → Prop), wpo (opEq (.str w) (.str "windows") g) Q = Q (.bl b3) g := fun g Q => by rw [eq_str hw (by decide +kernel), e3]
    have z : ∀ z : Bool, 0 ≤ (k : Int) * (if z = true then (1 : Int) else 0) ∧ (k : Int) * (if z = true then (1 : Int) else 0) ≤ k := fun z => by cases z <;> simp <;> omega
    have l0 := lgs b0
    have l1 := lgs b1
    have l2 := lgs b2
    have l3 := lgs b3
    have z0 := z b0
    have z1 := z b1
    have z2 := z b2
    have z3 := z b3
    have hfk : f k = !caughtI (bn + k * (if b0 = true then 1 else 0)) (a + k * (if b1 = true then 1 else 0)) (b + k * (if b3 = true then 1 else 0)) (c + k * (if b2 = true then 1 else 0)) P Q h := by rw [← hf]
    have r0 : ∀ (g : GH) (Q : D → GH → Prop), wpo (fInt [.bl b0] g) Q = Q (.int (if b0 = true then (1 : Int) else 0)) g := fun g Q => int_bl b0
    have r1 : ∀ (g : GH) (Q : D → GH → Prop), wpo (fInt [.bl b1] g) Q = Q (.int (if b1 = true then (1 : Int) else 0)) g := fun g Q => int_bl b1
    have r2 : ∀ (g : GH) (Q : D → GH → Prop), wpo (fInt [.bl b2] g) Q = Q (.int (if b2 = true then (1 : Int) else 0)) g := fun g Q => int_bl b2
    have r3 : ∀ (g : GH) (Q : D → GH → Prop), wpo (fInt [.bl b3] g) Q = Q (.int (if b3 = true then (1 : Int) else 0)) g := fun g Q => int_bl b3
    generalize (if b0 = true then (1 : Int) else 0) = y0 at *
    generalize (if b1 = true then (1 : Int) else 0) = y1 at *
    generalize (if b2 = true then (1 : Int) else 0) = y2 at *
    generalize (if b3 = true then (1 : Int) else 0) = y3 at *
    have l0' : (k : Nat).log2 + y0.natAbs.log2 < 1000000 := l0
    have l1' : (k : Nat).log2 + y1.natAbs.log2 < 1000000 := l1
    have l2' : (k : Nat).log2 + y2.natAbs.log2 < 1000000 := l2
    have l3' : (k : Nat).log2 + y3.natAbs.log2 < 1000000 := l3
    simp [b_mends_1, s0, s1, s2, s3, r0, r1, r2, r3, l0', l1', l2', l3', -int_bl, -Bool.exists_bool]
    rw [ltr_eq]
    have hfs : mendOne w f (k + 1) = match (intsFrom 0 k).find? f with
      | some m => [.tup [.str w, .int m]]
      | none => if f k = true then [.tup [.str w, .int (k : Int)]] else [] := by
      unfold mendOne
      rw [find_snoc]
      cases (intsFrom 0 k).find? f with
      | some m => rfl
      | none => by_cases hk : f k = true <;> simp [hk]
    have ic := is_caught_eq (n := n) (g := g' ++ [GO.lst []]) (b := bn + k * y0) (c := a + k * y1) (w := b + k * y3) (k := c + k * y2) (p := P) (q := Q) (h := h) (by omega) (by omega) (by omega) (by omega) hP hQ hh
    have hq2 := (App.one g' (.lst [])).get hq1
    have hcur : ∀ cur, mendOne w f k = cur → (g' ++ [GO.lst []])[q]? = some (.lst (done ++ cur)) := fun cur e => by rw [← e]; exact hq2
    have hdp : ∀ (g : GH), ∀ x ∈ done, ∃ p, toPy g 15 x = some p := fun g x hx => by
      obtain ⟨w', m, e, h1, _⟩ := hd x hx
      exact WM0.py ⟨w', m, e, h1⟩ g
    cases hfind : (intsFrom 0 k).find? f with
    | some m =>
      have hm1 : mendOne w f k = [.tup [.str w, .int m]] := by simp only [mendOne, hfind]
      have hm2 : mendOne w f (k + 1) = [.tup [.str w, .int m]] := by rw [hfs, hfind]
      have hq3 := hcur _ hm1
      simp [-Bool.exists_bool]
      rw [eq_nil hq3 (get_end _ _) (fun x hx => by
        rcases List.mem_append.mp hx with hx | hx
        · exact hdp _ x hx
        · rw [List.mem_singleton.mp hx]
          exact WM0.py ⟨w, m, rfl, hw⟩ _)]
      have he : (done ++ [D.tup [.str w, .int m]]).isEmpty = false := by cases done <;> rfl
      rw [he]
      simp [-Bool.exists_bool]
      rw [ix_lst (lst_ref hq3)]
      simp [atI_last, -Bool.exists_bool]
      rw [ne_str hw hw]
      simp
      rw [ltr_eq]
      simp
      refine ⟨K1.trans ((App.one _ _).kp q), ?_⟩
      rw [hm2]
      exact hq3
    | none =>
      have hm1 : mendOne w f k = [] := by simp only [mendOne, hfind]
      have hq3 : (g' ++ [GO.lst []])[q]? = some (.lst done) := by simpa using hcur _ hm1
      have hlt : q < (g' ++ [GO.lst []]).length := (List.getElem?_eq_some_iff.mp hq3).1
      have hX : caughtI (bn + k * y0) (a + k * y1) (b + k * y3) (c + k * y2) P Q h = !(f k) := by rw [hfk, Bool.not_not]
      rw [hX] at ic
      have fin : f k = true → Kp q g ((g' ++ [GO.lst []]).set q (.lst (done ++ [.tup [.str w, .int (k : Int)]]))) ∧ ((g' ++ [GO.lst []]).set q (.lst (done ++ [.tup [.str w, .int (k : Int)]])))[q]? = some (.lst (done ++ mendOne w f (k + 1))) := fun hk => by
        refine ⟨(K1.trans ((App.one _ _).kp q)).trans (Kp.set _), ?_⟩
        rw [hfs, hfind]
        simp only [hk, if_true]
        rw [List.getElem?_set_self hlt]
      have fin0 : f k = false → Kp q g (g' ++ [GO.lst []]) ∧ (g' ++ [GO.lst []])[q]? = some (.lst (done ++ mendOne w f (k + 1))) := fun hk => by
        refine ⟨K1.trans ((App.one _ _).kp q), ?_⟩
        rw [hfs, hfind]
        simp only [hk, Bool.false_eq_true, if_false, List.append_nil]
        exact hq3
      have hll : done.length < 16777216 := by omega
      cases hde : done with
      | nil =>
        subst hde
        simp [-Bool.exists_bool]
        rw [eq_nil hq3 (get_end _ _) (by simp)]
        simp [ic, -Bool.exists_bool]
        cases hk : f k with
        | true =>
          obtain ⟨f1, f2⟩ := fin hk
          simp
          rw [ltr_eq]
          simp [hq3]
          exact ⟨f1, f2⟩
        | false =>
          simp
          rw [ltr_eq]
          simp
          exact fin0 hk
      | cons d0 ds0 =>
        obtain ⟨ds, d1, hdd⟩ : ∃ ds d1, done = ds ++ [d1] := by
          rw [hde]
          exact ⟨(d0 :: ds0).dropLast, (d0 :: ds0).getLast (by simp), (List.dropLast_concat_getLast (by simp)).symm⟩
        rw [← hde]
        obtain ⟨w', m', e', h1', h2'⟩ := hd d1 (by rw [hdd]; simp)
        have he : done.isEmpty = false := by rw [hde]; rfl
        have hat : atI done (-1) = some d1 := by rw [hdd, atI_last]
        simp [-Bool.exists_bool]
        rw [eq_nil hq3 (get_end _ _) (hdp _), he]
        simp [-Bool.exists_bool]
        rw [ix_lst (lst_ref hq3)]
        simp [hat, e', -Bool.exists_bool]
        rw [ne_str h1' hw, h2']
        simp [ic, -Bool.exists_bool]
        cases hk : f k with
        | true =>
          obtain ⟨f1, f2⟩ := fin hk
          simp
          rw [ltr_eq]
          simp [hq3, hll]
          exact ⟨f1, f2⟩
        | false =>
          simp
          rw [ltr_eq]
          simp
          exact fin0 hk
  · rintro ρ g' ⟨K1, ⟨o8, o9, rfl⟩, hq1⟩
    exact hK g' o8 o9 K1 hq1

theorem for_cons {step : D → SV} {k : Kt} {x : D} {xs : List D} {ρ : Rho} {g : GH} (h : wps (step x ρ g) { k with nx := fun ρ g => wps (forL [] step xs ρ g) k, ct := fun ρ g => wps (forL [] step xs ρ g) k, bk := k.nx }) : wps (forL [] step (x :: xs) ρ g) k := by
  show wps (match step x ρ g with
      | .nx ρ' g' => forL [] step xs ρ' g'
      | .ct ρ' g' => forL [] step xs ρ' g'
      | .bk ρ' g' => .nx ρ' g'
      | o => o) k
  cases e : step x ρ g with
  | nx ρ' g' => rw [e] at h; exact h
  | ct ρ' g' => rw [e] at h; exact h
  | bk ρ' g' => rw [e] at h; exact h
  | rt d g' => rw [e] at h; exact h
  | er x ρ' g' => rw [e] at h; exact h
  | bad => rw [e] at h; exact h
theorem for_nil {step : D → SV} {k : Kt} {ρ : Rho} {g : GH} (h : k.nx ρ g) : wps (forL [] step [] ρ g) k := h
/-- what is not caught when the word's number grows by m -/
def okW (bn a b c P Q h : Int) (w : Str) (m : Int) : Bool :=
  !caughtI (bn + m * (if (w == "bench") = true then 1 else 0)) (a + m * (if (w == "changes") = true then 1 else 0)) (b + m * (if (w == "windows") = true then 1 else 0)) (c + m * (if (w == "knocks") = true then 1 else 0)) P Q h
def mendL (bn a b c P Q h : Int) (n : Nat) : List Str → List D
  | [] => []
  | w :: ws => mendOne w (okW bn a b c P Q h w) n ++ mendL bn a b c P Q h n ws
def wordsL : List Str := ["bench", "changes", "knocks", "windows"]
theorem mendOne_wm {w : Str} {f : Int → Bool} {n : Nat} {x : D} (hw : PyData.strOk w = true) (hx : x ∈ mendOne w f n) : ∃ m, x = .tup [.str w, .int m] := by
  unfold mendOne at hx
  split at hx
  · rw [List.mem_singleton.mp hx]
    exact ⟨_, rfl⟩
  · cases hx
theorem mendOne_len (w : Str) (f : Int → Bool) (n : Nat) : (mendOne w f n).length ≤ 1 := by
  unfold mendOne
  split <;> simp
theorem mends_ok {n : Nat} {g : GH} {a b c t bn h : Int} {p : List Int} (hcode : codeB (codeD a b c p) = true) (ha : a ≤ 100) (hb : b ≤ 100) (hc : c ≤ 100) (ht : 1 ≤ t ∧ t ≤ 1000000000000000000000000000000) (hbn : 0 ≤ bn ∧ bn ≤ 20) (hh : 0 ≤ h ∧ h ≤ 20) (hp : pausesN p t ≤ t - 1) :
    wp (run (n+5) .mends [codeD a b c p, .int t, .int bn, .int h] g) (fun x g' => ∃ q, x = .ref q ∧ Ex g g' ∧ g'[q]? = some (.lst (mendL bn a b c (pausesN p t) (t - 1 - pausesN p t) h 21 wordsL))) F0 := by
  obtain ⟨ha0, hb0, hc0, hl⟩ := codeD_b hcode
  show wp (runB (b_mends (run (n+4))) 10 _ g) _ _
  simp [b_mends]
  refine (need_all_ok (n := n) (r := g.length) (codeD_vl (by omega)) (by omega) hcode ht).use ?_
  rintro _ g1 ⟨rfl, A⟩
  rw [ltr_eq]
  have e1 := need_number_ok (n := n + 2) (r := g1.length) (m := 1) (g := g1) (d := .int bn) (lo := 0) (hi := 20) True.intro (by simp [isI, hbn])
  have e2 := need_number_ok (n := n + 2) (r := g1.length) (m := 1) (g := g1) (d := .int h) (lo := 0) (hi := 20) True.intro (by simp [isI, hh])
  simp [e1]
  rw [ltr_eq]
  simp [e2]
  rw [ltr_eq]
  simp
  refine (stops_ok (n := n + 3) (by omega)).use ?_
  rintro _ g2 ⟨rfl, A2⟩
  simp [setR]
  rw [ltr_eq]
  simp
  rw [ltr_eq]
  have hP : 0 ≤ pausesN p t := by unfold pausesN; omega
  have hQ : 0 ≤ t - 1 - pausesN p t := by omega
  have hq0 := get_end g2 (.lst [])
  have A3 : App g (g2 ++ [.lst []]) := (A.trans A2).trans (App.one _ _)
  have K3 : Kp g2.length (g2 ++ [GO.lst []]) (g2 ++ [GO.lst []]) := Kp.refl _ _
  generalize pausesN p t = P at hP hQ ⊢
  generalize t - 1 - P = Q at hQ ⊢
  simp
  refine for_cons ?_
  rw [wps_stepOf]
  simp only [List.set_cons_succ, List.set_cons_zero]
  refine mends_in (n := n + 2) (w := "bench") (done := []) (by decide +kernel) rfl rfl rfl rfl ⟨ha0, ha⟩ ⟨hb0, hb⟩ ⟨hc0, hc⟩ hbn.1 ⟨hh.1, by omega⟩ hP hQ (by simp) (by simp) hq0 fun g3 o8 o9 K3 h3 => ?_
  have ex : ∀ (w w2 : Str) (f : Int → Bool) (m : Nat) (x : D), PyData.strOk w = true → (w == w2) = false → x ∈ mendOne w f m → WM w2 x := fun w w2 f m x h1 h2 hx => by
    obtain ⟨m', e⟩ := mendOne_wm h1 hx
    exact ⟨w, m', e, h1, h2⟩
  refine for_cons ?_
  rw [wps_stepOf]
  simp only [List.set_cons_succ, List.set_cons_zero]
  refine mends_in (n := n + 2) (w := "changes") (by decide +kernel) rfl rfl rfl rfl ⟨ha0, ha⟩ ⟨hb0, hb⟩ ⟨hc0, hc⟩ hbn.1 ⟨hh.1, by omega⟩ hP hQ (fun x hx => ?_) ?_ h3 fun g4 o8 o9 K4 h4 => ?_
  · simp only [List.nil_append] at hx
    exact ex _ _ _ _ x (by decide +kernel) (by decide +kernel) hx
  · have := mendOne_len "bench"
    simp only [List.nil_append]
    exact Nat.le_trans (this _ _) (by omega)
  refine for_cons ?_
  rw [wps_stepOf]
  simp only [List.set_cons_succ, List.set_cons_zero]
  refine mends_in (n := n + 2) (w := "knocks") (by decide +kernel) rfl rfl rfl rfl ⟨ha0, ha⟩ ⟨hb0, hb⟩ ⟨hc0, hc⟩ hbn.1 ⟨hh.1, by omega⟩ hP hQ (fun x hx => ?_) ?_ h4 fun g5 o8 o9 K5 h5 => ?_
  · simp only [List.nil_append] at hx
    rcases List.mem_append.mp hx with hx | hx
    · exact ex _ _ _ _ x (by decide +kernel) (by decide +kernel) hx
    · exact ex _ _ _ _ x (by decide +kernel) (by decide +kernel) hx
  · have l1 := mendOne_len "bench"
    have l2 := mendOne_len "changes"
    simp only [List.nil_append, List.length_append]
    exact Nat.le_trans (Nat.add_le_add (l1 _ _) (l2 _ _)) (by omega)
  refine for_cons ?_
  rw [wps_stepOf]
  simp only [List.set_cons_succ, List.set_cons_zero]
  refine mends_in (n := n + 2) (w := "windows") (by decide +kernel) rfl rfl rfl rfl ⟨ha0, ha⟩ ⟨hb0, hb⟩ ⟨hc0, hc⟩ hbn.1 ⟨hh.1, by omega⟩ hP hQ (fun x hx => ?_) ?_ h5 fun g6 o8 o9 K6 h6 => ?_
  · simp only [List.nil_append] at hx
    rcases List.mem_append.mp hx with hx | hx
    · rcases List.mem_append.mp hx with hx | hx
      · exact ex _ _ _ _ x (by decide +kernel) (by decide +kernel) hx
      · exact ex _ _ _ _ x (by decide +kernel) (by decide +kernel) hx
    · exact ex _ _ _ _ x (by decide +kernel) (by decide +kernel) hx
  · have l1 := mendOne_len "bench"
    have l2 := mendOne_len "changes"
    have l3 := mendOne_len "knocks"
    simp only [List.nil_append, List.length_append]
    exact Nat.le_trans (Nat.add_le_add (Nat.add_le_add (l1 _ _) (l2 _ _)) (l3 _ _)) (by omega)
  dsimp only
  refine for_nil ?_
  dsimp only
  rw [ltr_eq]
  simp
  refine ⟨(A.trans A2).ex.trans (((K3.trans K4).trans K5).trans K6).new, ?_⟩
  rw [h6]
  simp only [mendL, wordsL, List.nil_append, List.append_nil, List.append_assoc]
  rfl

theorem for_consD {deps : Deps} {step : D → SV} {k : Kt} {x : D} {xs : List D} {ρ : Rho} {g : GH} (hd : depsOk g deps = true) (h : wps (step x ρ g) { k with nx := fun ρ g => wps (forL deps step xs ρ g) k, ct := fun ρ g => wps (forL deps step xs ρ g) k, bk := k.nx }) : wps (forL deps step (x :: xs) ρ g) k := by
  unfold forL
  rw [if_pos hd]
  cases e : step x ρ g with
  | nx ρ' g' => rw [e] at h; exact h
  | ct ρ' g' => rw [e] at h; exact h
  | bk ρ' g' => rw [e] at h; exact h
  | rt d g' => rw [e] at h; exact h
  | er x ρ' g' => rw [e] at h; exact h
  | bad => rw [e] at h; exact h
theorem for_nilD {deps : Deps} {step : D → SV} {k : Kt} {ρ : Rho} {g : GH} (hd : depsOk g deps = true) (h : k.nx ρ g) : wps (forL deps step [] ρ g) k := by
  unfold forL
  rw [if_pos hd]
  exact h
theorem pcount_pauses' : ∀ p ∈ pausesV, ∀ t < 20, (pcount p t 1 : Int) = pausesN p (t + 1) := by decide +kernel
theorem enum_words : enumD 0 [D.str "bench", .str "changes", .str "knocks", .str "windows"] = [.tup [.int 0, .str "bench"], .tup [.int 1, .str "changes"], .tup [.int 2, .str "knocks"], .tup [.int 3, .str "windows"]] := rfl
/-- the law's inner loop -/
theorem mended_in {n : Nat} {g : GH} {K : Kt} {a b c t bn h : Int} {p : List Int} {q at_ : Nat} {done : List D} {w : Str} {f : Int → Bool} {o7 o8 o9 o10 : Option D} (hw : PyData.strOk w = true) (hp : p ∈ pausesV) (ht : 1 ≤ t ∧ t ≤ 7) (hat : at_ < 4)
    (ha : 0 ≤ a ∧ a ≤ 5) (hb : 0 ≤ b ∧ b ≤ 5) (hc : 0 ≤ c ∧ c ≤ 5) (hbn : 0 ≤ bn ∧ bn ≤ 5) (hh : 0 ≤ h ∧ h ≤ 5)
    (hf : ∀ m, f m = !caughtI (bn + m * (if at_ = 0 then 1 else 0)) (a + m * (if (at_ : Int) = 1 then 1 else 0)) (b + m * (if (at_ : Int) = 3 then 1 else 0)) (c + m * (if (at_ : Int) = 2 then 1 else 0)) (pausesN p t) (t - 1 - pausesN p t) h)
    (hd : ∀ x ∈ done, WM w x) (hl : done.length ≤ 1000) (hq : g[q]? = some (.lst done))
    (hK : ∀ g' o7 o8 o9 o10, Kp q g g' → g'[q]? = some (.lst (done ++ mendOne w f 8)) →
      K.nx [some (codeD a b c p), some (.int t), some (.int bn), some (.int h), some (.ref q), some (.int (at_ : Nat)), some (.str w), o7, o8, o9, o10] g') :
    wps (b_law_mended_2 (run (n+30)) [some (codeD a b c p), some (.int t), some (.int bn), some (.int h), some (.ref q), some (.int (at_ : Nat)), some (.str w), o7, o8, o9, o10] g) K := by
  simp [b_law_mended_2]
  refine wps_rng (fun i ρ g' => Kp q g g' ∧ (∃ o7 o8 o9 o10, ρ = [some (codeD a b c p), some (.int t), some (.int bn), some (.int h), some (.ref q), some (.int (at_ : Nat)), some (.str w), o7, o8, o9, o10]) ∧ g'[q]? = some (.lst (done ++ mendOne w f i.toNat))) (by omega) ?_ ?_ _ _ ⟨Kp.refl _ _, ⟨_, _, _, _, rfl⟩, by simpa [mendOne, intsFrom] using hq⟩
  · rintro i ρ g' i0 i1 ⟨K1, ⟨o7, o8, o9, o10, rfl⟩, hq1⟩
    rw [wps_stepOf]
    simp only [List.set_cons_succ, List.set_cons_zero]
    obtain ⟨k, rfl⟩ := Int.eq_ofNat_of_zero_le i0
    have lgs : ∀ (z : Prop) [Decidable z], k.log2 + (if z then (1 : Int) else 0).natAbs.log2 < 1000000 := fun z _ => lg_small (i := (k : Int)) (by split <;> simp <;> omega)
    have z : ∀ (z : Prop) [Decidable z], 0 ≤ (k : Int) * (if z then (1 : Int) else 0) ∧ (k : Int) * (if z then (1 : Int) else 0) ≤ k := fun z _ => by split <;> simp <;> omega
    have l0 := lgs (at_ = 0)
    have l1 := lgs ((at_ : Int) = 1)
    have l2 := lgs ((at_ : Int) = 2)
    have l3 := lgs ((at_ : Int) = 3)
    have z0 := z (at_ = 0)
    have z1 := z ((at_ : Int) = 1)
    have z2 := z ((at_ : Int) = 2)
    have z3 := z ((at_ : Int) = 3)
    have hfk := hf k
    have hml := mendOne_len w f k
    simp [b_law_mended_1, lgs, -Bool.exists_bool]
    rw [ltr_eq]
    simp [lgs, -Bool.exists_bool]
    rw [ltr_eq]
    simp [lgs, -Bool.exists_bool]
    rw [ltr_eq]
    simp [hq1, wipeR, -Bool.exists_bool]
    clear hf
    generalize (if at_ = 0 then (1 : Int) else 0) = y0 at *
    generalize (if (at_ : Int) = 1 then (1 : Int) else 0) = y1 at *
    generalize (if (at_ : Int) = 2 then (1 : Int) else 0) = y2 at *
    generalize (if (at_ : Int) = 3 then (1 : Int) else 0) = y3 at *
    refine ⟨by omega, comp_app (fun x => match x with | .tup [.str w', .int m] => if (w' == w) = true then some x else none | _ => none) (done ++ mendOne w f k) (fun g2 A => deps_one (A.get hq1)) (fun x hx g2 A => ⟨_, rfl, ?_⟩) _ fun g2 A => ?_⟩
    · obtain ⟨w', m', rfl, hw'⟩ : ∃ (w' : Str) (m' : Int), x = .tup [.str w', .int m'] ∧ PyData.strOk w' = true := by
        rcases List.mem_append.mp hx with hx | hx
        · obtain ⟨w', m', e, h1, _⟩ := hd x hx
          exact ⟨w', m', e, h1⟩
        · obtain ⟨m', e⟩ := mendOne_wm hw hx
          exact ⟨w, m', e, hw⟩
      simp [-Bool.exists_bool]
      rw [eq_str hw' hw]
      cases hww : (w' == w) with
      | false =>
        have hne : ¬ w' = w := beq_eq_false_iff_ne.mp hww
        simp [App.refl, hne]
      | true =>
        have hne : w' = w := beq_iff_eq.mp hww
        simp [App.refl, hne]
    · have e1 : done.filterMap (fun x => match x with | .tup [.str w', .int m] => if (w' == w) = true then some x else none | _ => none) = [] := by
        rw [List.filterMap_eq_nil_iff]
        intro x hx
        obtain ⟨w', m', rfl, _, h2⟩ := hd x hx
        simp only [h2, Bool.false_eq_true, if_false]
      have e2 : (mendOne w f k).filterMap (fun x => match x with | .tup [.str w', .int m] => if (w' == w) = true then some x else none | _ => none) = mendOne w f k := by
        unfold mendOne
        split
        · simp
        · rfl
      rw [List.filterMap_append, e1, e2, List.nil_append]
      rw [ltr_eq]
      have hq2 : (g2 ++ [GO.lst (mendOne w f k)])[q]? = some (.lst (done ++ mendOne w f k)) := (A.trans (App.one _ _)).get hq1
      have hy := get_end g2 (.lst (mendOne w f k))
      have A3 : App g' (g2 ++ [GO.lst (mendOne w f k)]) := A.trans (App.one _ _)
      generalize g2.length = qy at hy ⊢
      generalize g2 ++ [GO.lst (mendOne w f k)] = g3 at hq2 hy A3 ⊢
      have hfs : mendOne w f (k + 1) = match (intsFrom 0 k).find? f with
        | some m => [.tup [.str w, .int m]]
        | none => if f k = true then [.tup [.str w, .int (k : Int)]] else [] := by
        unfold mendOne
        rw [find_snoc]
        cases (intsFrom 0 k).find? f with
        | some m => rfl
        | none => by_cases hk : f k = true <;> simp [hk]
      cases hfind : (intsFrom 0 k).find? f with
      | some m =>
        have hm1 : mendOne w f k = [.tup [.str w, .int m]] := by simp only [mendOne, hfind]
        have hm2 : mendOne w f (k + 1) = [.tup [.str w, .int m]] := by rw [hfs, hfind]
        rw [hm1] at hq2 hy
        simp [-Bool.exists_bool]
        rw [eq_nil ((App.one g3 (.lst [])).get hy) (get_end _ _) (fun x hx => by
          rw [List.mem_singleton.mp hx]
          exact WM0.py ⟨w, m, rfl, hw⟩ _)]
        simp
        rw [ltr_eq]
        simp
        refine ⟨K1.trans ((A3.trans (App.one _ _)).kp q), ?_⟩
        rw [hm2]
        exact (App.one g3 (.lst [])).get hq2
      | none =>
        have hm1 : mendOne w f k = [] := by simp only [mendOne, hfind]
        rw [hm1] at hq2 hy
        simp only [List.append_nil] at hq2
        simp [-Bool.exists_bool]
        rw [eq_nil ((App.one g3 (.lst [])).get hy) (get_end _ _) (by simp)]
        simp [-Bool.exists_bool]
        have hq3 := (App.one g3 (.lst [])).get hq2
        have A4 : App g' (g3 ++ [GO.lst []]) := A3.trans (App.one _ _)
        obtain ⟨t', ht'⟩ : ∃ t' : Nat, t = 1 + (t' : Int) := ⟨(t - 1).toNat, by omega⟩
        have inr : InR (1, bn + k * y0, a + k * y1, b + k * y3, c + k * y2, h) := by simp only [InR]; omega
        have hG : g3 ++ [GO.lst [], GO.dct []] = (g3 ++ [GO.lst []]) ++ [GO.dct []] := by simp
        have hL : g3.length + 1 = (g3 ++ [GO.lst []]).length := by simp
        rw [hG, hL]
        generalize g3 ++ [GO.lst []] = g4 at hq3 A4
        subst ht'
        have run1 := lost_ok (n := n + 29 - t') (a0 := a) (b0 := b) (c0 := c) (p := p) (q := g4.length) (ticks := 1 + (t' : Int)) (by omega) t' 1 (bn + k * y0) (a + k * y1) (b + k * y3) (c + k * y2) h (g4 ++ [.dct []]) [] (by omega) inr (get_end _ _) (Memo.nil _ _)
        rw [show n + 29 - t' + (t' + 1) = n + 30 by omega] at run1
        refine run1.use ?_
        rintro _ g5 ⟨rfl, K5, _, _, _⟩
        have E5 := K5.new
        have hP1 := pcount_pauses' p hp t' (by omega)
        have et : ((1 : Int) + t' - 1).toNat = t' := by omega
        have ev1 : lostV p (1 + (t' : Int)) (1, bn + k * y0, a + k * y1, b + k * y3, c + k * y2, h) = !(f k) := by
          rw [hfk, Bool.not_not]
          simp only [lostV, et]
          rw [show (1 : Int) + t' = t' + 1 by omega, ← hP1]
          congr 1
          omega
        rw [ev1]
        have hq5 := E5.2 _ _ hq3
        have K5' : Kp q g g5 := K1.trans ((A4.ex.trans E5).kp q)
        have hlt : q < g5.length := (List.getElem?_eq_some_iff.mp hq5).1
        cases hk : f k with
        | true =>
          refine ⟨_, rfl, ?_⟩
          simp
          rw [ltr_eq]
          simp [hq5, show done.length < 16777216 by omega]
          refine ⟨K5'.trans (Kp.set _), ?_⟩
          rw [hfs, hfind]
          simp only [hk, if_true]
          simp [hlt]
        | false =>
          refine ⟨_, rfl, ?_⟩
          simp
          rw [ltr_eq]
          simp
          refine ⟨K5', ?_⟩
          rw [hfs, hfind]
          simp only [hk, Bool.false_eq_true, if_false, List.append_nil]
          exact hq5
  · rintro ρ g' ⟨K1, ⟨o7, o8, o9, o10, rfl⟩, hq1⟩
    exact hK g' o7 o8 o9 o10 K1 hq1
/-- the law's own list of mends: the same words, numbers to 7 -/
theorem mended_ok {n : Nat} {g : GH} {a b c t bn h : Int} {p : List Int} (hp : p ∈ pausesV) (ht : 1 ≤ t ∧ t ≤ 7) (ha : 0 ≤ a ∧ a ≤ 5) (hb : 0 ≤ b ∧ b ≤ 5) (hc : 0 ≤ c ∧ c ≤ 5) (hbn : 0 ≤ bn ∧ bn ≤ 5) (hh : 0 ≤ h ∧ h ≤ 5) :
    wp (run (n+31) .law_mended [codeD a b c p, .int t, .int bn, .int h] g) (fun x g' => ∃ q, x = .ref q ∧ Ex g g' ∧ g'[q]? = some (.lst (mendL bn a b c (pausesN p t) (t - 1 - pausesN p t) h 8 wordsL))) F0 := by
  show wp (runB (b_law_mended (run (n+30))) 11 _ g) _ _
  simp [b_law_mended]
  rw [ltr_eq]
  simp
  rw [enum_words]
  have hdeps : ∀ g' : GH, Kp g.length (g ++ [GO.lst [], GO.lst [D.str "bench", .str "changes", .str "knocks", .str "windows"]]) g' → depsOk g' [(g.length + 1, [D.str "bench", .str "changes", .str "knocks", .str "windows"])] = true := fun g' K => deps_one (K.2 _ _ (by omega) (by simp))
  have hq0 : (g ++ [GO.lst [], GO.lst [D.str "bench", .str "changes", .str "knocks", .str "windows"]])[g.length]? = some (.lst []) := by simp
  have E0 : ∀ g', Kp g.length (g ++ [GO.lst [], GO.lst [D.str "bench", .str "changes", .str "knocks", .str "windows"]]) g' → Ex g g' := fun g' K => by
    refine ⟨?_, fun i u e => ?_⟩
    · have := K.1
      simp at this
      omega
    · have hi := (List.getElem?_eq_some_iff.mp e).1
      exact K.2 i u (by omega) (by rw [List.getElem?_append_left hi]; exact e)
  generalize g ++ [GO.lst [], GO.lst [D.str "bench", .str "changes", .str "knocks", .str "windows"]] = g0 at hdeps hq0 E0 ⊢
  generalize g.length = q at hdeps hq0 E0 ⊢
  have ex : ∀ (w w2 : Str) (f : Int → Bool) (m : Nat) (x : D), PyData.strOk w = true → (w == w2) = false → x ∈ mendOne w f m → WM w2 x := fun w w2 f m x h1 h2 hx => by
    obtain ⟨m', e⟩ := mendOne_wm h1 hx
    exact ⟨w, m', e, h1, h2⟩
  refine for_consD (hdeps _ (Kp.refl _ _)) ?_
  rw [wps_stepT]
  refine ⟨_, rfl, rfl, ?_⟩
  simp only [setR, List.set_cons_succ, List.set_cons_zero]
  refine mended_in (n := n) (at_ := 0) (w := "bench") (done := []) (f := okW bn a b c (pausesN p t) (t - 1 - pausesN p t) h "bench") (by decide +kernel) hp ht (by omega) ha hb hc hbn hh (fun m => rfl) (by simp) (by simp) hq0 fun g3 o7 o8 o9 o10 K3 h3 => ?_
  refine for_consD (hdeps _ K3) ?_
  rw [wps_stepT]
  refine ⟨_, rfl, rfl, ?_⟩
  simp only [setR, List.set_cons_succ, List.set_cons_zero]
  refine mended_in (n := n) (at_ := 1) (w := "changes") (f := okW bn a b c (pausesN p t) (t - 1 - pausesN p t) h "changes") (by decide +kernel) hp ht (by omega) ha hb hc hbn hh (fun m => rfl) (fun x hx => ?_) ?_ h3 fun g4 o7 o8 o9 o10 K4 h4 => ?_
  · simp only [List.nil_append] at hx
    exact ex _ _ _ _ x (by decide +kernel) (by decide +kernel) hx
  · have := mendOne_len "bench"
    simp only [List.nil_append]
    exact Nat.le_trans (this _ _) (by omega)
  refine for_consD (hdeps _ (K3.trans K4)) ?_
  rw [wps_stepT]
  refine ⟨_, rfl, rfl, ?_⟩
  simp only [setR, List.set_cons_succ, List.set_cons_zero]
  refine mended_in (n := n) (at_ := 2) (w := "knocks") (f := okW bn a b c (pausesN p t) (t - 1 - pausesN p t) h "knocks") (by decide +kernel) hp ht (by omega) ha hb hc hbn hh (fun m => rfl) (fun x hx => ?_) ?_ h4 fun g5 o7 o8 o9 o10 K5 h5 => ?_
  · simp only [List.nil_append] at hx
    rcases List.mem_append.mp hx with hx | hx
    · exact ex _ _ _ _ x (by decide +kernel) (by decide +kernel) hx
    · exact ex _ _ _ _ x (by decide +kernel) (by decide +kernel) hx
  · have l1 := mendOne_len "bench"
    have l2 := mendOne_len "changes"
    simp only [List.nil_append, List.length_append]
    exact Nat.le_trans (Nat.add_le_add (l1 _ _) (l2 _ _)) (by omega)
  refine for_consD (hdeps _ ((K3.trans K4).trans K5)) ?_
  rw [wps_stepT]
  refine ⟨_, rfl, rfl, ?_⟩
  simp only [setR, List.set_cons_succ, List.set_cons_zero]
  refine mended_in (n := n) (at_ := 3) (w := "windows") (f := okW bn a b c (pausesN p t) (t - 1 - pausesN p t) h "windows") (by decide +kernel) hp ht (by omega) ha hb hc hbn hh (fun m => rfl) (fun x hx => ?_) ?_ h5 fun g6 o7 o8 o9 o10 K6 h6 => ?_
  · simp only [List.nil_append] at hx
    rcases List.mem_append.mp hx with hx | hx
    · rcases List.mem_append.mp hx with hx | hx
      · exact ex _ _ _ _ x (by decide +kernel) (by decide +kernel) hx
      · exact ex _ _ _ _ x (by decide +kernel) (by decide +kernel) hx
    · exact ex _ _ _ _ x (by decide +kernel) (by decide +kernel) hx
  · have l1 := mendOne_len "bench"
    have l2 := mendOne_len "changes"
    have l3 := mendOne_len "knocks"
    simp only [List.nil_append, List.length_append]
    exact Nat.le_trans (Nat.add_le_add (Nat.add_le_add (l1 _ _) (l2 _ _)) (l3 _ _)) (by omega)
  dsimp only
  refine for_nilD (hdeps _ (((K3.trans K4).trans K5).trans K6)) ?_
  dsimp only
  rw [ltr_eq]
  simp
  refine ⟨E0 _ (((K3.trans K4).trans K5).trans K6), ?_⟩
  rw [h6]
  simp only [mendL, wordsL, List.nil_append, List.append_nil, List.append_assoc]

theorem CodeV.b {a b c : Int} {p : List Int} (ha : 0 ≤ a ∧ a < 4) (hb : 0 ≤ b ∧ b < 3) (hc : 0 ≤ c ∧ c < 3) (hp : p ∈ pausesV) : codeB (codeD a b c p) = true := by
  have h1 : ∀ p ∈ pausesV, p.length ≤ 2 ∧ risB 0 (p.map D.int) = true := by decide +kernel
  obtain ⟨h2, h3⟩ := h1 p hp
  simp [codeB, isI, h2, h3]
  omega
theorem Vl.tri {r : Nat} {g : GH} {x : D} (h : x = .non ∨ (∃ b, x = .bl b) ∨ ∃ i, x = .int i) : Vl r g 1 x := by
  rcases h with rfl | ⟨b, rfl⟩ | ⟨i, rfl⟩ <;> exact True.intro
theorem pauses_in {p : List Int} (hp : p ∈ pausesV) {t : Int} (ht : 1 ≤ t) : pausesN p t ≤ t - 1 ∧ 0 ≤ pausesN p t := by
  have h1 : ∀ p ∈ pausesV, ∀ t < 20, pausesN p (t + 1 : Nat) ≤ t := by decide +kernel
  have h2 : ∀ p ∈ pausesV, p.length ≤ 2 := by decide +kernel
  refine ⟨?_, by unfold pausesN; omega⟩
  by_cases h : t ≤ 20
  · obtain ⟨k, rfl⟩ : ∃ k : Nat, t = (k + 1 : Nat) := ⟨(t - 1).toNat, by omega⟩
    have := h1 p hp k (by omega)
    omega
  · have := h2 p hp
    have l : (p.filter fun x => decide (x < t)).length ≤ p.length := List.length_filter_le _ _
    unfold pausesN
    omega
theorem most_er {n r m : Nat} {g : GH} {a b c : Int} {p : List Int} {t bn : D} (hm11 : m ≤ 10) (hcode : codeB (codeD a b c p) = true) (hbn : Vl r g m bn)
    (b1 : isI t 1 1000000000000000000000000000000 = true) (b2 : isI bn 0 20 = false) :
    wp (run (n+5) .most_hurts [codeD a b c p, t, bn] g) (fun _ _ => False) (fun e g' => e = .own 2 ∧ App g g') := by
  obtain ⟨ha, hb, hc, hl⟩ := codeD_b hcode
  show wp (runB (b_most_hurts (run (n+4))) 4 _ g) _ _
  simp [b_most_hurts]
  obtain ⟨t, rfl, t1, t2⟩ := isI_int b1
  refine (need_all_ok (n := n) (r := g.length) (codeD_vl (by omega)) (by omega) hcode ⟨t1, t2⟩).imp ?_ fun _ _ z => z.elim
  rintro _ g1 ⟨rfl, A⟩
  rw [ltr_eq]
  simp [need_number_er (n := n + 2) (lo := 0) (hi := 20) (hbn.app A) b2]
  exact A
theorem least_er {n r m : Nat} {g : GH} {a b c : Int} {p : List Int} {t bn : D} (hm11 : m ≤ 10) (hcode : codeB (codeD a b c p) = true) (hbn : Vl r g m bn)
    (b1 : isI t 1 1000000000000000000000000000000 = true) (b2 : isI bn 0 20 = false) :
    wp (run (n+5) .least_bench [codeD a b c p, t, bn] g) (fun _ _ => False) (fun e g' => e = .own 2 ∧ App g g') := by
  obtain ⟨ha, hb, hc, hl⟩ := codeD_b hcode
  show wp (runB (b_least_bench (run (n+4))) 3 _ g) _ _
  simp [b_least_bench]
  obtain ⟨t, rfl, t1, t2⟩ := isI_int b1
  refine (need_all_ok (n := n) (r := g.length) (codeD_vl (by omega)) (by omega) hcode ⟨t1, t2⟩).imp ?_ fun _ _ z => z.elim
  rintro _ g1 ⟨rfl, A⟩
  rw [ltr_eq]
  simp [need_number_er (n := n + 2) (lo := 0) (hi := 20) (hbn.app A) b2]
  exact A
theorem mends_er {n r m : Nat} {g : GH} {a b c : Int} {p : List Int} {t bn h : D} (hm11 : m ≤ 10) (hcode : codeB (codeD a b c p) = true) (hbn : Vl r g m bn)
    (b1 : isI t 1 1000000000000000000000000000000 = true) (b2 : isI bn 0 20 = false) :
    wp (run (n+5) .mends [codeD a b c p, t, bn, h] g) (fun _ _ => False) (fun e g' => e = .own 2 ∧ App g g') := by
  obtain ⟨ha, hb, hc, hl⟩ := codeD_b hcode
  show wp (runB (b_mends (run (n+4))) 10 _ g) _ _
  simp [b_mends]
  obtain ⟨t, rfl, t1, t2⟩ := isI_int b1
  refine (need_all_ok (n := n) (r := g.length) (codeD_vl (by omega)) (by omega) hcode ⟨t1, t2⟩).imp ?_ fun _ _ z => z.elim
  rintro _ g1 ⟨rfl, A⟩
  rw [ltr_eq]
  simp [need_number_er (n := n + 2) (lo := 0) (hi := 20) (hbn.app A) b2]
  exact A
theorem word_num {g : GH} {QD : D → GH → Prop} {r : Res D} (h : wp r (fun _ _ => False) (fun e g' => e = .own 2 ∧ App g g')) (hq : ∀ g', App g g' → QD (.bl false) g') :
    wp r (fun _ g1 => wpo (opNe (.str "") (.str "number") g1) QD) (fun x g1 => ∃ c, x = .own c ∧ ∃ w, wordS[c]? = some w ∧ wpo (opNe (.str w) (.str "number") g1) QD) := by
  refine h.imp (fun _ _ z => z.elim) ?_
  rintro _ g' ⟨rfl, A⟩
  refine ⟨2, rfl, "number", rfl, ?_⟩
  rw [ne_str (by decide +kernel) (by decide +kernel)]
  simp
  exact hq g' A
theorem refused_ok {n : Nat} {g : GH} {a b c : Int} {p : List Int} (hcode : codeB (codeD a b c p) = true) : wp (run (n+6) .law_refused [codeD a b c p] g) (fun x g' => x = .bl true ∧ App g g') F0 := by
  show wp (runB (b_law_refused (run (n+5))) 2 _ g) _ _
  simp [b_law_refused]
  generalize hds : ([.int (-1), .int 21, .non, .bl true] : List D) = ds
  have e3 := get_end g (.lst ds)
  have A0 := App.one g (.lst ds)
  generalize g.length = q at e3 ⊢
  generalize g ++ [GO.lst ds] = g3 at e3 A0 ⊢
  refine wps_for (all := ds) (fun _ ρ g' => App g3 g' ∧ ∃ o1, ρ = [some (codeD a b c p), o1]) (fun _ _ _ h => deps_one (h.1.get e3)) ?_ ?_ _ (fun _ h => h) _ _ ⟨App.refl _, _, rfl⟩
  · rintro x _ ρ g' hx ⟨A, o1, rfl⟩
    have hv : x = .non ∨ (∃ b, x = .bl b) ∨ ∃ i, x = .int i := by
      subst hds
      simp at hx
      rcases hx with rfl | rfl | rfl | rfl
      · exact .inr (.inr ⟨_, rfl⟩)
      · exact .inr (.inr ⟨_, rfl⟩)
      · exact .inl rfl
      · exact .inr (.inl ⟨_, rfl⟩)
    have hb : isI x 0 20 = false := by
      subst hds
      simp at hx
      rcases hx with rfl | rfl | rfl | rfl <;> decide
    simp [b_law_refused_1]
    refine word_num (mends_er (n := n) (r := 0) (m := 1) (by omega) hcode (Vl.tri hv) (by decide) hb) fun g1 A1 => ?_
    simp
    rw [ltr_eq]
    simp
    rw [ltr_eq]
    simp
    refine word_num (least_er (n := n) (r := 0) (m := 1) (by omega) hcode (Vl.tri hv) (by decide) hb) fun g2 A2 => ?_
    simp
    rw [ltr_eq]
    simp
    rw [ltr_eq]
    simp
    refine word_num (most_er (n := n) (r := 0) (m := 1) (by omega) hcode (Vl.tri hv) (by decide) hb) fun g4 A4 => ?_
    simp
    rw [ltr_eq]
    simp
    exact ((A.trans A1).trans A2).trans A4
  · rintro ρ g' ⟨A, o1, rfl⟩
    dsimp only
    rw [ltr_eq]
    simp
    exact A0.trans A
/-! numbers past 7 help no more -/
theorem mendOne_8 {w : Str} {f : Int → Bool} (h : ∀ m, 7 ≤ m → f m = f 7) : mendOne w f 21 = mendOne w f 8 := by
  unfold mendOne
  have e : intsFrom 0 21 = intsFrom 0 8 ++ intsFrom 8 13 := by decide +kernel
  rw [e, List.find?_append]
  cases h8 : (intsFrom 0 8).find? f with
  | some m => rfl
  | none =>
    have h7 : f 7 = false := by
      have := List.find?_eq_none.mp h8 7 (by decide +kernel)
      simpa using this
    have : (intsFrom 8 13).find? f = none := by
      rw [List.find?_eq_none]
      intro x hx
      have h2 : ∀ x ∈ intsFrom 8 13, 7 ≤ x := by decide +kernel
      rw [h x (h2 x hx), h7]
      simp
    rw [this]
    rfl
theorem okW_sat {bn a b c P Q h : Int} {w : Str} (ha : 0 ≤ a) (hb : 0 ≤ b) (hc : 0 ≤ c) (hbn : 0 ≤ bn) (hh : 0 ≤ h ∧ h ≤ 5) (hP : 0 ≤ P) (hQ : 0 ≤ Q) (m : Int) (hm : 7 ≤ m) : okW bn a b c P Q h w m = okW bn a b c P Q h w 7 := by
  simp only [okW]
  have z : ∀ (z : Bool), ((if z = true then (1 : Int) else 0) = 0 ∨ (if z = true then (1 : Int) else 0) = 1) := fun z => by cases z <;> simp
  have z0 := z (w == "bench")
  have z1 := z (w == "changes")
  have z2 := z (w == "knocks")
  have z3 := z (w == "windows")
  generalize (if (w == "bench") = true then (1 : Int) else 0) = y0 at *
  generalize (if (w == "changes") = true then (1 : Int) else 0) = y1 at *
  generalize (if (w == "knocks") = true then (1 : Int) else 0) = y2 at *
  generalize (if (w == "windows") = true then (1 : Int) else 0) = y3 at *
  congr 1
  have q : ∀ y : Int, (y = 0 ∨ y = 1) → (m * y = 7 * y ∨ (7 ≤ m * y ∧ 7 ≤ 7 * y)) := fun y hy => by
    rcases hy with rfl | rfl
    · left; omega
    · right; omega
  have q0 := q y0 z0
  have q1 := q y1 z1
  have q2 := q y2 z2
  have q3 := q y3 z3
  have r : ∀ y : Int, (y = 0 ∨ y = 1) → 0 ≤ m * y ∧ 0 ≤ 7 * y := fun y hy => by
    rcases hy with rfl | rfl <;> omega
  have r0 := r y0 z0
  have r1 := r y1 z1
  have r2 := r y2 z2
  have r3 := r y3 z3
  generalize m * y0 = m0 at *
  generalize m * y1 = m1 at *
  generalize m * y2 = m2 at *
  generalize m * y3 = m3 at *
  generalize 7 * y0 = n0 at *
  generalize 7 * y1 = n1 at *
  generalize 7 * y2 = n2 at *
  generalize 7 * y3 = n3 at *
  rw [Bool.eq_iff_iff]
  simp [caughtI]
  omega
theorem mendL_8 {bn a b c P Q h : Int} (ha : 0 ≤ a) (hb : 0 ≤ b) (hc : 0 ≤ c) (hbn : 0 ≤ bn) (hh : 0 ≤ h ∧ h ≤ 5) (hP : 0 ≤ P) (hQ : 0 ≤ Q) : ∀ ws : List Str, mendL bn a b c P Q h 21 ws = mendL bn a b c P Q h 8 ws
  | [] => rfl
  | w :: ws => by
    unfold mendL
    rw [mendOne_8 (okW_sat ha hb hc hbn hh hP hQ), mendL_8 ha hb hc hbn hh hP hQ ws]

theorem ne_same {Q : D → GH → Prop} {g : GH} {d e : D} {p : PyData} (h1 : toPy g 16 d = some p) (h2 : toPy g 16 e = some p) : wpo (opNe d e g) Q = Q (.bl false) g := by
  rw [ne_py h1 h2, PySem.SeqAt.eqv_refl p (shaped_to 16 d p h1).1]
  rfl
theorem eq_same {Q : D → GH → Prop} {g : GH} {d e : D} {p : PyData} (h1 : toPy g 16 d = some p) (h2 : toPy g 16 e = some p) : wpo (opEq d e g) Q = Q (.bl true) g := by
  rw [eq_py h1 h2, PySem.SeqAt.eqv_refl p (shaped_to 16 d p h1).1]
def pickD (f : Int → Bool) : D → Option D
  | .int i => if f i then some (.int i) else none
  | _ => none
theorem pick_D (f : Int → Bool) : ∀ xs : List Int, (xs.map D.int).filterMap (pickD f) = (xs.filter f).map D.int
  | [] => rfl
  | x :: xs => by
    have ih := pick_D f xs
    by_cases h : f x = true
    · simp [pickD, h] at ih ⊢
      exact ih
    · simp [pickD, h] at ih ⊢
      exact ih
theorem optD_py (o : Option Int) (g : GH) (n : Nat) : ∃ p, toPy g (n + 1) (optD o) = some p := by
  cases o with
  | none => exact ⟨_, toPy_non⟩
  | some i => exact ⟨_, toPy_int⟩
theorem mendL_py {g : GH} {bn a b c P Q h : Int} {m : Nat} : ∀ ws : List Str, (∀ w ∈ ws, PyData.strOk w = true) → ∀ x ∈ mendL bn a b c P Q h m ws, ∃ p, toPy g 15 x = some p
  | [], _, x, hx => by simp [mendL] at hx
  | w :: ws, hw, x, hx => by
    unfold mendL at hx
    rcases List.mem_append.mp hx with hx | hx
    · obtain ⟨m', rfl⟩ := mendOne_wm (hw w (by simp)) hx
      exact WM0.py ⟨w, m', rfl, hw w (by simp)⟩ g
    · exact mendL_py ws (fun v hv => hw v (by simp [hv])) x hx
/-- the two numbers of hurts agree -/
theorem most_plain {F : Int → Bool} (h0 : F 0 = false) :
    (((intsFrom 0 21).filter F = [] ∧ (((intsFrom 1 21).find? F).map fun h => h - 1) = none) ∨
     ((intsFrom 0 21).filter F = [] ∧ (((intsFrom 1 21).find? F).map fun h => h - 1) = some 20)) ∨
    ∃ x xs, (intsFrom 0 21).filter F = x :: xs ∧ (((intsFrom 1 21).find? F).map fun h => h - 1) = some (x - 1) := by
  have e0 : intsFrom 0 21 = 0 :: intsFrom 1 20 := by decide +kernel
  have e1 : intsFrom 1 21 = intsFrom 1 20 ++ [21] := by decide +kernel
  have hd : ∀ l : List Int, (l.filter F).head? = l.find? F := fun l => by
    induction l with
    | nil => rfl
    | cons y l ih => by_cases h : F y = true <;> simp [h, ih]
  rw [e0, e1, List.find?_append, List.filter_cons_of_neg (by simp [h0])]
  have := hd (intsFrom 1 20)
  cases hf : (intsFrom 1 20).filter F with
  | nil =>
    rw [hf] at this
    left
    rw [← this]
    by_cases h : F 21 = true
    · right; simp [h]
    · left; simp [h]
  | cons x xs =>
    rw [hf] at this
    right
    refine ⟨x, xs, rfl, ?_⟩
    rw [← this]
    rfl
def ticksV : List D := [.int 1, .int 2, .int 3, .int 4, .int 6, .int 13, .int 30, .int 1000000000000000000000000000000]
theorem ticksV_int {d : D} (h : d ∈ ticksV) : ∃ t : Int, d = .int t ∧ 1 ≤ t ∧ t ≤ 1000000000000000000000000000000 := by
  simp [ticksV] at h
  rcases h with rfl | rfl | rfl | rfl | rfl | rfl | rfl | rfl <;> exact ⟨_, rfl, by decide, by decide⟩
/-- one turn -/
theorem k07_turn {n r : Nat} {g g0 : GH} {K : Kt} {o0 o1 o3 o4 o5 o6 o7 o8 o9 o10 o11 o12 o13 : Option D} (F : Fk r g) (K0 : Kp r g0 g)
    (hK : ∀ g' a b c p o5 o6 o7 o8 o9 o10 o11, (0 ≤ a ∧ a < 4) → (0 ≤ b ∧ b < 3) → (0 ≤ c ∧ c < 3) → p ∈ pausesV → Fk r g' → Kp r g0 g' → K.nx [o0, o1, some (.ref r), o3, some (codeD a b c p), o5, o6, o7, o8, o9, o10, o11, o12, o13] g') :
    wps (b_law_2 (run (n+31)) [o0, o1, some (.ref r), o3, o4, o5, o6, o7, o8, o9, o10, o11, o12, o13] g) K := by
  have z300 : (1000 : Int) < 10 ^ 300 := by decide +kernel
  simp [b_law_2]
  refine (lcode_ok (n := n+28) F).use ?_
  rintro _ g1 ⟨⟨a, b, c, p, rfl, ha, hb, hc, hp⟩, F1, K1⟩
  rw [ltr_eq]
  simp
  refine (some_ref (n := n+29) (F1.app (App.one _ _)) (get_end _ _) (by have := F1.lt; omega) (by simp) (by simp)).use ?_
  rintro d2 g2 ⟨hm, F2, K2, L2⟩
  obtain ⟨t, rfl, ht⟩ := ticksV_int (d := d2) hm
  rw [ltr_eq]
  simp
  refine (sip_ok (n := n+30) F2 (by omega) (by omega)).use ?_
  rintro _ g3 ⟨f, rfl, f0, f1, F3, K3, L3⟩
  refine (sip_ok (n := n+30) F3 (by omega) (by omega)).use ?_
  rintro _ g4 ⟨h, rfl, h0, h1, F4, K4, L4⟩
  have K4' : Kp r g0 g4 := ((((K0.trans K1).trans ((App.one _ _).kp r)).trans K2).trans K3).trans K4
  clear K1 K2 K3 L2 L3 L4 F1 F2 F3 hm
  simp [setR]
  rw [ltr_eq]
  have hcode := CodeV.b ha hb hc hp
  obtain ⟨hPt, hP0⟩ := pauses_in hp ht.1
  -- the numbers of hurts
  simp [wipeR, -Bool.exists_bool]
  refine ⟨by simp [rangeD_len], comp_app (pickD fun i => caughtI f a b c (pausesN p t) (t - 1 - pausesN p t) i) (rangeD 0 21) (fun _ _ => rfl) (fun x hx g' A => ⟨_, rfl, ?_⟩) _ fun g5 A5 => ?_⟩
  · obtain ⟨i, hi, rfl⟩ := List.mem_map.mp hx
    have hi2 := List.mem_range.mp hi
    simp [-Bool.exists_bool]
    refine (caught_ok (n := n+26) (t := t) hcode ht ⟨by omega, by omega⟩ ⟨by omega, by omega⟩ hPt).use ?_
    rintro _ g2 ⟨rfl, A2⟩
    cases hi : caughtI f a b c (pausesN p t) (t - 1 - pausesN p t) i <;> simp [A2, App.refl, pickD, hi]
  rw [rangeD_ints, pick_D]
  rw [show ((21 : Int) - 0).toNat = 21 from rfl]
  rw [ltr_eq]
  have hz : caughtI f a b c (pausesN p t) (t - 1 - pausesN p t) 0 = false := by
    simp [caughtI]
    omega
  have pl := most_plain (F := fun i => caughtI f a b c (pausesN p t) (t - 1 - pausesN p t) i) hz
  have A6 : App g4 (g5 ++ [GO.lst ((List.filter (fun i => caughtI f a b c (pausesN p t) (t - 1 - pausesN p t) i) (intsFrom 0 21)).map D.int)]) := A5.trans (App.one _ _)
  have h6 := get_end g5 (GO.lst ((List.filter (fun i => caughtI f a b c (pausesN p t) (t - 1 - pausesN p t) i) (intsFrom 0 21)).map D.int))
  generalize g5.length = q6 at h6 ⊢
  generalize g5 ++ [GO.lst ((List.filter (fun i => caughtI f a b c (pausesN p t) (t - 1 - pausesN p t) i) (intsFrom 0 21)).map D.int)] = g6 at A6 h6 ⊢
  simp [-Bool.exists_bool]
  refine (most_ok (n := n+26) hcode ht ⟨by omega, by omega⟩ hPt).use ?_
  rintro _ g7 ⟨rfl, A7⟩
  rw [ltr_eq, wps_sSeq]
  have h7 := A7.get h6
  generalize hT : Ltr (sSeq _ _) _ = T
  have fin : ∀ g8 o8 o9, App g4 g8 → T [o0, o1, some (.ref r), o3, some (codeD a b c p), some (.int t), some (.int f), some (.int h), o8, o9, o10, o11, o12, o13] g8 := by
    intro g8 o8 o9 A8
    rw [← hT, ltr_eq]
    clear hT T pl h7 A7 h6 A6
    simp [-Bool.exists_bool]
    have h9 := get_end g8 (.lst [])
    have A9 : App g4 (g8 ++ [.lst []]) := A8.trans (App.one _ _)
    generalize g8.length = q9 at h9 ⊢
    generalize g8 ++ [GO.lst []] = g9 at h9 A9 ⊢
    rw [ltr_eq]
    simp [-Bool.exists_bool]
    refine wps_rng (fun i ρ g' => App g4 g' ∧ ∃ q o10, ρ = [o0, o1, some (.ref r), o3, some (codeD a b c p), some (.int t), some (.int f), some (.int h), some (.ref q), o9, o10, o11, o12, o13] ∧ g'[q]? = some (.lst (((intsFrom 0 i.toNat).filter fun bn => !caughtI bn a b c (pausesN p t) (t - 1 - pausesN p t) h).map D.int))) (by omega) ?_ ?_ _ _ ⟨A9, _, _, rfl, h9⟩
    · rintro i ρ g' i0 i1 ⟨A', q, o10, rfl, hq⟩
      obtain ⟨k, rfl⟩ := Int.eq_ofNat_of_zero_le i0
      simp [b_law_1, -Bool.exists_bool]
      refine (caught_ok (n := n+26) (t := t) hcode ht ⟨by omega, by omega⟩ ⟨by omega, by omega⟩ hPt).use ?_
      rintro _ g2 ⟨rfl, A2⟩
      have hq2 := A2.get hq
      have hl : ∀ (l : List Int), l.length ≤ 30 → (l.filter fun bn => !caughtI bn a b c (pausesN p t) (t - 1 - pausesN p t) h).length ≤ 30 := fun l hl => Nat.le_trans (List.length_filter_le _ _) hl
      have hl2 := hl (intsFrom 0 k) (by simp [intsFrom]; omega)
      have es : intsFrom 0 (k + 1) = intsFrom 0 k ++ [(k : Int)] := by rw [intsFrom_snoc, Int.zero_add]
      cases hi : caughtI k a b c (pausesN p t) (t - 1 - pausesN p t) h with
      | true =>
        simp [-Bool.exists_bool]
        rw [add_ref ((App.one g2 (.lst [])).get hq2) (get_end _ _)]
        refine ⟨by simp; omega, (A'.trans A2).trans ((App.one _ _).trans (App.one _ _)), _, rfl, ?_⟩
        rw [get_end]
        simp [es, hi]
      | false =>
        simp [-Bool.exists_bool]
        rw [add_ref ((App.one g2 (.lst [.int k])).get hq2) (get_end _ _)]
        refine ⟨by simp; omega, (A'.trans A2).trans ((App.one _ _).trans (App.one _ _)), _, rfl, ?_⟩
        rw [get_end]
        simp [es, hi]
    · rintro ρ g' ⟨A', q, o10, rfl, hq⟩
      dsimp only
      rw [show ((21 : Int)).toNat = 21 from rfl] at hq
      rw [ltr_eq, wps_sSeq]
      generalize hT : Ltr (sSeq _ _) _ = T
      simp [-Bool.exists_bool]
      refine (least_ok (n := n+26) hcode ht ⟨by omega, by omega⟩ hPt).use ?_
      rintro _ g10 ⟨rfl, A10⟩
      have hq2 := A10.get hq
      have fin : ∀ g8, App g4 g8 → T [o0, o1, some (.ref r), o3, some (codeD a b c p), some (.int t), some (.int f), some (.int h), some (.ref q), o9, o10, o11, o12, o13] g8 := by
        intro g8 A8
        rw [← hT, ltr_eq]
        clear hT T hq2 A10 hq A' h9 A9
        simp [-Bool.exists_bool]
        rw [ltr_eq]
        simp [-Bool.exists_bool]
        generalize hs : (if 7 < t then 7 else t) = s
        have hsb : 1 ≤ s ∧ s ≤ 7 := by split at hs <;> omega
        obtain ⟨hPs, hPs0⟩ := pauses_in hp hsb.1
        refine (mends_ok (n := n+26) hcode (by omega) (by omega) (by omega) ⟨by omega, by omega⟩ ⟨by omega, by omega⟩ ⟨by omega, by omega⟩ hPs).use ?_
        rintro _ g11 ⟨q1, rfl, E11, hq1⟩
        refine (mended_ok (n := n) hp hsb ⟨by omega, by omega⟩ ⟨by omega, by omega⟩ ⟨by omega, by omega⟩ ⟨by omega, by omega⟩ ⟨by omega, by omega⟩).use ?_
        rintro _ g12 ⟨q2, rfl, E12, hq2⟩
        have hq1' := E12.2 _ _ hq1
        rw [mendL_8 (by omega) (by omega) (by omega) (by omega) ⟨by omega, by omega⟩ (by omega) (by omega)] at hq1'
        obtain ⟨ps, e1, l1⟩ := py_lst (n := 15) hq1' (mendL_py _ (by decide +kernel))
        have e2 : toPy g12 16 (.ref q2) = some (.list ps) := by
          rw [toPy_ref hq2]
          rw [toPy_ref hq1'] at e1
          exact e1
        rw [ne_same e1 e2]
        simp
        rw [ltr_eq]
        simp
        exact hK g12 a b c p _ _ _ _ _ _ _ ha hb hc hp ((A8.ex.trans (E11.trans E12)).fk F4) (K4'.trans ((A8.ex.trans (E11.trans E12)).kp r))
      have A11 := A'.trans A10
      have hL : ∀ L : List Int, g10[q]? = some (.lst (L.map D.int)) → wpo (opNe (.ref q) (.ref g10.length) (g10 ++ [GO.lst []])) (fun d g => d = .bl (!L.isEmpty) ∧ g = g10 ++ [GO.lst []]) := fun L e => by
        rw [ne_nil ((App.one g10 (.lst [])).get e) (get_end _ _) (fun y hy => by
          obtain ⟨i, _, rfl⟩ := List.mem_map.mp hy
          exact ⟨_, toPy_int⟩)]
        cases L <;> exact ⟨rfl, rfl⟩
      generalize List.filter (fun bn => !caughtI bn a b c (pausesN p t) (t - 1 - pausesN p t) h) (intsFrom 0 21) = L at hq2 ⊢
      cases L with
      | nil =>
        rw [ne_nil (ds := []) ((App.one g10 (.lst [])).get hq2) (get_end _ _) (by simp)]
        simp [-Bool.exists_bool, headD, optD]
        rw [ne_same toPy_non toPy_non]
        simp
        rw [ltr_eq]
        simp
        exact fin _ (A11.trans (App.one _ _))
      | cons x xs =>
        rw [ne_nil (ds := (x :: xs).map D.int) ((App.one g10 (.lst [])).get hq2) (get_end _ _) (fun y hy => by
          obtain ⟨i, _, rfl⟩ := List.mem_map.mp hy
          exact ⟨_, toPy_int⟩)]
        simp [-Bool.exists_bool, headD, optD]
        rw [ix_lst (lst_ref ((App.one g10 (.lst [])).get hq2))]
        simp [-Bool.exists_bool]
        rw [ltr_eq]
        simp
        exact fin _ (A11.trans (App.one _ _))
  have A8 := A6.trans A7
  rcases pl with (⟨e1, e2⟩ | ⟨e1, e2⟩) | ⟨x, xs, e1, e2⟩
  · rw [e1] at h7
    rw [e2]
    simp [-Bool.exists_bool]
    rw [ne_nil (ds := []) ((App.one g7 (.lst [])).get h7) (get_end _ _) (by simp)]
    simp [-Bool.exists_bool, optD]
    rw [ne_same toPy_non toPy_non]
    simp
    rw [ltr_eq]
    simp
    exact fin _ _ _ (A8.trans (App.one _ _))
  · rw [e1] at h7
    rw [e2]
    simp [-Bool.exists_bool]
    rw [ne_nil (ds := []) ((App.one g7 (.lst [])).get h7) (get_end _ _) (by simp)]
    simp [-Bool.exists_bool, optD]
    rw [ne_py (p := .int 20) (q := .none) toPy_int toPy_non]
    have en : PyData.eqv (.int 20) .none = false := by decide +kernel
    rw [en]
    simp [-Bool.exists_bool]
    rw [ltr_eq]
    simp [-Bool.exists_bool]
    rw [ne_nil (ds := []) (App.get (g := g7) ⟨_, rfl⟩ h7) (by simp) (by simp)]
    simp
    rw [ltr_eq]
    simp
    exact fin _ _ _ (A8.trans ⟨_, rfl⟩)
  · rw [e1] at h7
    rw [e2]
    simp [-Bool.exists_bool]
    rw [ne_nil (ds := (x :: xs).map D.int) ((App.one g7 (.lst [])).get h7) (get_end _ _) (fun y hy => by
      obtain ⟨i, _, rfl⟩ := List.mem_map.mp hy
      exact ⟨_, toPy_int⟩)]
    simp [-Bool.exists_bool, optD]
    rw [ix_lst (lst_ref ((App.one g7 (.lst [])).get h7))]
    simp [-Bool.exists_bool]
    rw [ltr_eq]
    simp
    exact fin _ _ _ (A8.trans (App.one _ _))
theorem k07_flask {n : Nat} {g : GH} {K : Kt} {d : D} {ns : List Int} {k : Int} {o2 o3 o4 o5 o6 o7 o8 o9 o10 o11 o12 o13 : Option D} (hd : lstOf g d = some (ns.map D.int)) (h0 : 0 ≤ k) (h1 : k ≤ 1000)
    (hK : ∀ g' o2 o3 o4 o5 o6 o7 o8 o9 o10 o11 o12 o13, lstOf g' d = some (ns.map D.int) → K.nx [some d, some (.int k), o2, o3, o4, o5, o6, o7, o8, o9, o10, o11, o12, o13] g') :
    wps (b_law_3 (run (n+31)) [some d, some (.int k), o2, o3, o4, o5, o6, o7, o8, o9, o10, o11, o12, o13] g) K := by
  simp [b_law_3]
  refine (flask_ok (n := n+30) hd h0 h1).use ?_
  rintro _ g1 ⟨rfl, A1, F1, L1⟩
  have hdr : d ≠ .ref g.length := fun z => by
    subst z
    have := lst_lt hd
    omega
  generalize hr : g.length = r at F1 hdr
  have hd1 := app_lst A1 hd
  rw [ltr_eq]
  simp
  refine wps_rng (fun i ρ g2 => Fk r g2 ∧ Kp r g1 g2 ∧ ∃ o3 o4 o5 o6 o7 o8 o9 o10 o11, ρ = [some d, some (.int k), some (.ref r), o3, o4, o5, o6, o7, o8, o9, o10, o11, o12, o13] ∧ (0 < i → ∃ a b c p, o4 = some (codeD a b c p) ∧ codeB (codeD a b c p) = true)) (by omega) ?_ ?_ _ _ ⟨F1, Kp.refl _ _, _, _, _, _, _, _, _, _, _, rfl, fun z => by omega⟩
  · rintro i ρ g2 _ _ ⟨F2, K2, o3, o4, o5, o6, o7, o8, o9, o10, o11, rfl, _⟩
    rw [wps_stepOf]
    simp only [List.set_cons_succ, List.set_cons_zero]
    refine k07_turn (n := n) F2 K2 fun g' a b c p o5 o6 o7 o8 o9 o10 o11 ha hb hc hp F3 K3 => ⟨F3, K3, _, _, _, _, _, _, _, _, _, rfl, fun _ => ⟨a, b, c, p, rfl, CodeV.b ha hb hc hp⟩⟩
  · rintro ρ g2 ⟨F2, K2, o3, o4, o5, o6, o7, o8, o9, o10, o11, rfl, hc⟩
    obtain ⟨a, b, c, p, rfl, hcode⟩ := hc (by omega)
    have hd2 := lst_kp K2 hdr hd1
    dsimp only
    rw [ltr_eq]
    simp
    refine (refused_ok (n := n+25) hcode).use ?_
    rintro _ g3 ⟨rfl, A3⟩
    simp
    rw [ltr_eq]
    simp
    exact hK _ _ _ _ _ _ _ _ _ _ _ _ _ (app_lst A3 hd2)
theorem mm (n : Nat) (g : GH) (a b c t bn : Int) (p : List Int) (v : Option Int) (hcode : codeB (codeD a b c p) = true) (ht : 1 ≤ t ∧ t ≤ 1000000000000000000000000000000) (hbn : 0 ≤ bn ∧ bn ≤ 20) (hp : pausesN p t ≤ t - 1)
    (hv : (((intsFrom 1 21).find? fun h => caughtI bn a b c (pausesN p t) (t - 1 - pausesN p t) h).map fun h => h - 1) = v) {Q : D → GH → Prop} {W : Exc → GH → Prop} (k : ∀ g', App g g' → Q (optD v) g') : wp (run (n+5) .most_hurts [codeD a b c p, .int t, .int bn] g) Q W := by
  refine (most_ok (n := n) hcode ht hbn hp).use ?_
  rintro _ g' ⟨rfl, A⟩
  rw [hv]
  exact k g' A
theorem ll (n : Nat) (g : GH) (a b c t h : Int) (p : List Int) (v : Option Int) (hcode : codeB (codeD a b c p) = true) (ht : 1 ≤ t ∧ t ≤ 1000000000000000000000000000000) (hh : 0 ≤ h ∧ h ≤ 20) (hp : pausesN p t ≤ t - 1)
    (hv : ((intsFrom 0 21).filter fun bn => !caughtI bn a b c (pausesN p t) (t - 1 - pausesN p t) h).head? = v) {Q : D → GH → Prop} {W : Exc → GH → Prop} (k : ∀ g', App g g' → Q (optD v) g') : wp (run (n+5) .least_bench [codeD a b c p, .int t, .int h] g) Q W := by
  refine (least_ok (n := n) hcode ht hh hp).use ?_
  rintro _ g' ⟨rfl, A⟩
  unfold headD
  rw [hv]
  exact k g' A
theorem ne_mend (n : Nat) (g : GH) (a b c t bn h : Int) (p : List Int) (v : List (Str × Int)) (hcode : codeB (codeD a b c p) = true) (ha : a ≤ 100) (hb : b ≤ 100) (hc : c ≤ 100) (ht : 1 ≤ t ∧ t ≤ 1000000000000000000000000000000) (hbn : 0 ≤ bn ∧ bn ≤ 20) (hh : 0 ≤ h ∧ h ≤ 20) (hp : pausesN p t ≤ t - 1)
    (hv : mendL bn a b c (pausesN p t) (t - 1 - pausesN p t) h 21 wordsL = v.map fun q => .tup [.str q.1, .int q.2]) {Q : D → GH → Prop} {W : Exc → GH → Prop}
    (k : ∀ g' q, Ex g g' → g'[q]? = some (.lst (v.map fun q => .tup [.str q.1, .int q.2])) → Q (.ref q) g') : wp (run (n+5) .mends [codeD a b c p, .int t, .int bn, .int h] g) Q W := by
  refine (mends_ok (n := n) hcode ha hb hc ht hbn hh hp).use ?_
  rintro _ g' ⟨q, rfl, E, hq⟩
  rw [hv] at hq
  exact k g' q E hq
theorem pairs_py (v : List (Str × Int)) (hs : ∀ q ∈ v, PyData.strOk q.1 = true) {g : GH} {i : Nat} (h : g[i]? = some (.lst (v.map fun q => .tup [.str q.1, .int q.2]))) : toPy g 16 (.ref i) = some (.list (v.map fun q => .tuple [.str q.1, .int q.2])) := by
  rw [toPy_ref h]
  have : ∀ v : List (Str × Int), (∀ q ∈ v, PyData.strOk q.1 = true) → (v.map fun q => D.tup [.str q.1, .int q.2]).mapM (toPy g 15) = some (v.map fun q => PyData.tuple [.str q.1, .int q.2]) := fun v => by
    induction v with
    | nil => intro _; rfl
    | cons q v ih =>
      intro hs
      have e : ([D.str q.1, D.int q.2]).mapM (toPy g 14) = some [.str q.1, .int q.2] := by
        simp only [List.mapM_cons, List.mapM_nil, toPy_str (g := g) (n := 13) (hs q (by simp)), toPy_int]
        rfl
      rw [List.map_cons, List.mapM_cons, ih fun q hq => hs q (by simp [hq]), toPy_tup, e]
      rfl
  rw [this v hs]
  rfl
theorem py_opts {g : GH} {n : Nat} : ∀ is : List (Option Int), (is.map optD).mapM (toPy g (n + 1)) = some (is.map fun o => match o with | some i => PyData.int i | none => .none)
  | [] => rfl
  | i :: is => by
    rw [List.map_cons, List.mapM_cons, py_opts is]
    cases i <;> rfl
theorem ne_opts {Q : D → GH → Prop} {g : GH} {i j : Nat} (is : List (Option Int)) (h : g[i]? = some (.lst (is.map optD))) (h2 : g[j]? = some (.lst (is.map optD))) : wpo (opNe (.ref i) (.ref j) g) Q = Q (.bl false) g := by
  have e1 : toPy g 16 (.ref i) = some (.list (is.map fun o => match o with | some i => PyData.int i | none => .none)) := by rw [toPy_ref h, py_opts is]; rfl
  have e2 : toPy g 16 (.ref j) = some (.list (is.map fun o => match o with | some i => PyData.int i | none => .none)) := by rw [toPy_ref h2, py_opts is]; rfl
  exact ne_same e1 e2
theorem law_ok {n : Nat} {d : D} {ns : List Int} {g : GH} (hd : lstOf g d = some (ns.map D.int)) : wp (run (n+32) .law [d] g) (fun v _ => v = .bl true) F0 := by
  show wp (runB (b_law (run (n+31))) 14 _ g) _ _
  simp [b_law, len_lst hd]
  have hb : 1 ≤ 1 + (if (6 : Int) < (ns.length : Int) then (6 : Int) else (ns.length : Int)) ∧ 1 + (if (6 : Int) < (ns.length : Int) then (6 : Int) else (ns.length : Int)) ≤ 9 := by split <;> omega
  generalize 1 + (if (6 : Int) < (ns.length : Int) then (6 : Int) else (ns.length : Int)) = m at hb
  refine ⟨by omega, wps_rng (fun _ ρ g' => lstOf g' d = some (ns.map D.int) ∧ ∃ o1 o2 o3 o4 o5 o6 o7 o8 o9 o10 o11 o12 o13, ρ = [some d, o1, o2, o3, o4, o5, o6, o7, o8, o9, o10, o11, o12, o13]) (by omega) ?_ ?_ _ _ ⟨hd, _, _, _, _, _, _, _, _, _, _, _, _, _, rfl⟩⟩
  · rintro i ρ g' i0 i1 ⟨h1, o1, o2, o3, o4, o5, o6, o7, o8, o9, o10, o11, o12, o13, rfl⟩
    simp
    exact k07_flask (n := n) h1 i0 (by omega) fun g2 o2 o3 o4 o5 o6 o7 o8 o9 o10 o11 o12 o13 h2 => ⟨h2, _, _, _, _, _, _, _, _, _, _, _, _, _, rfl⟩
  · rintro ρ g1 ⟨h1, o1, o2, o3, o4, o5, o6, o7, o8, o9, o10, o11, o12, o13, rfl⟩
    dsimp only
    rw [ltr_eq]
    simp
    rw [ltr_eq]
    simp [-Bool.exists_bool]
    refine mm (n+26) _ 1 1 0 2 1 [] none (by decide) (by decide) (by decide) (by decide) (by decide +kernel) fun g2 A2 => ?_
    refine mm (n+26) _ 1 1 0 3 1 [] (some 1) (by decide) (by decide) (by decide) (by decide) (by decide +kernel) fun g3 A3 => ?_
    refine mm (n+26) _ 3 1 0 10 5 [] (some 1) (by decide) (by decide) (by decide) (by decide) (by decide +kernel) fun g4 A4 => ?_
    rw [ne_opts [none, some 1, some 1] (by simp) (by simp [optD])]
    simp
    rw [ltr_eq]
    simp
    rw [ltr_eq]
    simp [-Bool.exists_bool]
    refine mm (n+26) _ 3 1 1 10 5 [] (some 2) (by decide) (by decide) (by decide) (by decide) (by decide +kernel) fun g5 A5 => ?_
    refine mm (n+26) _ 3 0 0 10 5 [4, 5] (some 0) (by decide) (by decide) (by decide) (by decide) (by decide +kernel) fun g6 A6 => ?_
    rw [ne_opts [some 2, some 0] (by simp) (by simp [optD])]
    simp
    rw [ltr_eq]
    simp
    rw [ltr_eq]
    simp [-Bool.exists_bool]
    refine ll (n+26) _ 3 1 1 _ 2 [] (some 2) (by decide) (by decide) (by decide) (by decide) (by decide +kernel) fun g7 A7 => ?_
    refine ll (n+26) _ 3 1 1 _ 3 [] none (by decide) (by decide) (by decide) (by decide) (by decide +kernel) fun g8 A8 => ?_
    rw [ne_opts [some 2, none] (by simp) (by simp [optD])]
    simp
    rw [ltr_eq]
    simp
    rw [ltr_eq]
    simp [-Bool.exists_bool]
    refine ne_mend (n+26) _ 1 1 0 9 1 2 [] [] (by decide) (by decide) (by decide) (by decide) (by decide) (by decide) (by decide) (by decide) (D.sames_eq _ _ (by decide +kernel)) fun g9 q9 A9 h9 => ?_
    rw [ne_same (pairs_py (g := g9 ++ [GO.lst []]) (i := q9) [] (by simp) ((App.one g9 _).get h9)) (pairs_py (g := g9 ++ [GO.lst []]) (i := g9.length) [] (by simp) (get_end _ _))]
    simp [-Bool.exists_bool]
    refine ne_mend (n+26) _ 2 1 0 9 2 2 [] [("knocks", 1), ("windows", 1)] (by decide) (by decide) (by decide) (by decide) (by decide) (by decide) (by decide) (by decide) (D.sames_eq _ _ (by decide +kernel)) fun g10 q10 A10 h10 => ?_
    rw [ne_same (pairs_py (g := g10 ++ [GO.lst [.tup [.str "knocks", .int 1], .tup [.str "windows", .int 1]]]) (i := q10) [("knocks", 1), ("windows", 1)] (by decide +kernel) ((App.one g10 _).get h10)) (pairs_py (g := g10 ++ [GO.lst [.tup [.str "knocks", .int 1], .tup [.str "windows", .int 1]]]) (i := g10.length) [("knocks", 1), ("windows", 1)] (by decide +kernel) (by simp))]
    simp
    rw [ltr_eq]
    simp
    rw [ltr_eq]
    simp [-Bool.exists_bool]
    refine ne_mend (n+26) _ 2 2 0 9 0 2 [] [("bench", 2)] (by decide) (by decide) (by decide) (by decide) (by decide) (by decide) (by decide) (by decide) (D.sames_eq _ _ (by decide +kernel)) fun g11 q11 A11 h11 => ?_
    rw [ne_same (pairs_py (g := g11 ++ [GO.lst [.tup [.str "bench", .int 2]]]) (i := q11) [("bench", 2)] (by decide +kernel) ((App.one g11 _).get h11)) (pairs_py (g := g11 ++ [GO.lst [.tup [.str "bench", .int 2]]]) (i := g11.length) [("bench", 2)] (by decide +kernel) (by simp))]
    simp [-Bool.exists_bool]
    refine ne_mend (n+26) _ 5 0 2 _ 20 20 [] [("knocks", 18)] (by decide) (by decide) (by decide) (by decide) (by decide) (by decide) (by decide) (by decide) (D.sames_eq _ _ (by decide +kernel)) fun g12 q12 A12 h12 => ?_
    rw [ne_same (pairs_py (g := g12 ++ [GO.lst [.tup [.str "knocks", .int 18]]]) (i := q12) [("knocks", 18)] (by decide +kernel) ((App.one g12 _).get h12)) (pairs_py (g := g12 ++ [GO.lst [.tup [.str "knocks", .int 18]]]) (i := g12.length) [("knocks", 18)] (by decide +kernel) (by simp))]
    simp
    rw [ltr_eq]
    simp
    rw [ltr_eq]
    simp [-Bool.exists_bool]
    refine ne_mend (n+26) _ 1 1 0 9 1 1 [] [("bench", 0), ("changes", 0), ("knocks", 0), ("windows", 0)] (by decide) (by decide) (by decide) (by decide) (by decide) (by decide) (by decide) (by decide) (D.sames_eq _ _ (by decide +kernel)) fun g13 q13 A13 h13 => ?_
    have e13 := get_end g13 (.lst [.str "bench", .str "changes", .str "knocks", .str "windows"])
    have h13' := (App.one g13 (.lst [.str "bench", .str "changes", .str "knocks", .str "windows"])).get h13
    generalize g13.length = q14 at e13 ⊢
    generalize g13 ++ [GO.lst [D.str "bench", .str "changes", .str "knocks", .str "windows"]] = g14 at e13 h13' ⊢
    simp [e13, wipeR, -Bool.exists_bool]
    refine comp_app (fun x => some (.tup [x, .int 0])) _ (fun g' A => deps_one (A.get e13)) (fun x hx g' A => ⟨_, rfl, ?_⟩) _ fun g' A => ?_
    · simp [App.refl]
    · rw [eq_same (pairs_py [("bench", 0), ("changes", 0), ("knocks", 0), ("windows", 0)] (by decide +kernel) ((A.trans (App.one _ _)).get h13')) (pairs_py [("bench", 0), ("changes", 0), ("knocks", 0), ("windows", 0)] (by decide +kernel) (by simp))]
theorem law_true : ∃ N, 3 * N ≤ 225 ∧ ∀ (ns : List Int) (d : D) (g : GH), ns.length ≤ 63 → lstOf g d = some (ns.map D.int) → (d = .rol (ns.map D.int) ∨ d = .ref 0) → ∃ g', run N .law [d] g = .ok (.bl true) g' :=
  ⟨32, by omega, fun ns d g _ h _ => by
    obtain ⟨a, g', e, rfl⟩ := ok_of_wp (law_ok (n := 0) h)
    exact ⟨g', e⟩⟩


end L3

/-! The head of law 07, printed by gen.py. -/
namespace L3
open PySem PySem.Spec PyProof.Rows L2
section
variable {P : Program} {w : World} {K : PySem.W.Frag} {mg : Str → Option Value} {base : Heap} {fd : F → FuncData} {fdw : FuncData}
theorem all_ok (T : Tx K mg fd fdw) (TB : ∀ p ∈ tfs, LamX.TabB base mg (He.cT K p).1 (He.cT K p).2) : ∀ (n : Nat) (j : F), FnOk P w K mg base (L2.CX P w) (3 * n) (He.fAd K (nm j, none)) (fd j) (ps j) (spOf (zOf K P w) (ar j) (run n j))
  | 0, j => FnOk.zero fun _ _ => rfl
  | n + 1, j => by
    have A := all_ok T TB n
    cases j with
    | is_int => exact (d_is_int T A TB).mono (by omega)
    | rules_so => exact (d_rules_so T A TB).mono (by omega)
    | need_rule => exact (d_need_rule T A TB).mono (by omega)
    | need_number => exact (d_need_number T A TB).mono (by omega)
    | served => exact (d_served T A TB).mono (by omega)
    | is_caught => exact (d_is_caught T A TB).mono (by omega)
    | stops_of => exact (d_stops_of T A TB).mono (by omega)
    | caught_so => exact (d_caught_so T A TB).mono (by omega)
    | need_all => exact (d_need_all T A TB).mono (by omega)
    | caught => exact (d_caught T A TB).mono (by omega)
    | most_hurts => exact (d_most_hurts T A TB).mono (by omega)
    | least_bench => exact (d_least_bench T A TB).mono (by omega)
    | hurts_least => exact (d_hurts_least T A TB).mono (by omega)
    | mends => exact (d_mends T A TB).mono (by omega)
    | law_flask_of => exact (d_law_flask_of T A TB).mono (by omega)
    | law_sip => exact (d_law_sip T A TB).mono (by omega)
    | law_some => exact (d_law_some T A TB).mono (by omega)
    | law_code => exact (d_law_code T A TB).mono (by omega)
    | law_lost => exact (d_law_lost T A TB).mono (by omega)
    | law_mended => exact (d_law_mended T A TB).mono (by omega)
    | law_refused => exact (d_law_refused T A TB).mono (by omega)
    | law => exact (d_law T A TB).mono (by omega)
end
theorem binds_law {K : PySem.W.Frag} {mg : Str → Option Value} {fd : F → FuncData} {fdw : FuncData} (T : Tx K mg fd fdw) (s : Shared) (u : Value) : BindsTo s (fd .law) ⟨[u], []⟩ [("script", u)] := by
  have b := FunD.bindsA (ps := ["script"]) (T.fn .law) fun _ _ _ _ _ _ us hl => match us, hl with | [_], _ => rfl
  exact b s [u] rfl
theorem cx_nil {P : Program} {w : World} {H : Hp} {s s2 : Shared} {e : Value} (h : L2.CX P w [] H s (fun _ _ _ => False) e s2) : False := by
  obtain ⟨_, _, _, _, _, _, _, _, _, _, _, _, z⟩ := h
  exact z
def allF : List F := [.is_int, .rules_so, .need_rule, .need_number, .served, .is_caught, .stops_of, .caught_so, .need_all, .caught, .most_hurts, .least_bench, .hurts_least, .mends, .law_flask_of, .law_sip, .law_some, .law_code, .law_lost, .law_mended, .law_refused, .law]
theorem allF_mem (j : F) : j ∈ allF := by cases j <;> simp [allF]
def dn (j : F) : He.DefD := ⟨(nm j, none), nm j, nm j, defArgs (st j), defBody (st j), defScope (st j), [], []⟩
def dW : He.DefD := ⟨("_law_word", none), "_law_word", "_law_word", defArgs s_law_word, defBody s_law_word, defScope s_law_word, [], []⟩
def fn : List He.DefD := allF.map dn ++ [dW]
def fGlo : List He.Fa := allF.map (fun j => .glo (nm j)) ++ [.glo "_law_word", .glo "WORDS"]
def fFree : List He.Fa := [.free "abs", .free "bool", .free "enumerate", .free "int", .free "isinstance", .free "len", .free "list", .free "max", .free "min", .free "range", .free "set", .free "sorted", .free "tuple"]
def exB (K : PySem.W.Frag) : Bool := true && tupS K (He.ga K "WORDS") [(.str "bench"), (.str "changes"), (.str "knocks"), (.str "windows")]
def fInts : List He.Fa := [.int "GREAT" 1000000000000000000000000000000, .int "LAST_PAUSE" 12, .int "MOST_BENCH" 20, .int "MOST_CHANGES" 5, .int "MOST_KNOCKS" 2, .int "MOST_PAUSES" 2, .int "MOST_WINDOWS" 4]
def fStrs : List He.Fa := []
def fGx : List He.Fa := (List.range 14).map fun c => .glo (exNm.getD c "")
def fEx : List He.Fa := (List.range 12).map fun c => .exc (exNm.getD c "")
def fXm : List He.Fa := (List.range 12).flatMap fun c => (List.range 12).map fun j => .exm (exNm.getD c "") (exNm.getD j "") (decide (c = j))
def fa : List He.Fa := fGlo ++ (fFree ++ (fInts ++ (fStrs ++ (fGx ++ (fEx ++ fXm)))))
abbrev R : PySem.W.OpenRow := PySem.W.OpenLaw.row PySem.Challenge.rw_benchstops_k07_numbers_against_a_foe
abbrev hk : PySem.W.Hook := He.hookX 5 fa fn [] tfs exB
def ob (s : PySem.W.SharedT) : He.AlX := He.obsX 5 fa fn [] tfs exB (HandSHeadRun.getT s)
theorem ob_eq (s : PySem.W.SharedT) : ob s = hk.obs s.abs := He.obsX_eq (HandSHeadRun.getT_eq s)
def loose : List Str := (["BenchError", "InvalidRule", "InvalidSquad", "InvalidNumber", "InvalidPlan", "InvalidStanding", "InvalidPlace", "InvalidRow", "InvalidReply", "InvalidText", "Unlike", "Over", "NothingToUndo", "TooMany", "MOST_CHANGES", "MOST_WINDOWS", "MOST_PAUSES", "LAST_PAUSE", "MOST_KNOCKS", "GREAT", "is_int", "rules_so", "need_rule", "need_number", "MOST_BENCH", "WORDS", "served", "is_caught", "stops_of", "caught_so"] : List Str) ++ (["need_all", "caught", "most_hurts", "least_bench", "hurts_least", "mends", "_law_flask_of", "_law_sip", "_law_some", "_law_code", "_law_word", "_law_lost", "_law_mended", "_law_refused"] : List Str)
theorem runs (w : World) : HandSHeadRun.RunEq R (PySem.W.view R.prog [48]) hk ob 4000 loose w := by
  intro os
  kernel_rfl
theorem facts {w : World} {K : PySem.W.Frag} {h : Heap} {mg : Str → Option Value} (X : K.In h) (G : h.Ns mainGlobals mg) (c : He.SaysX fa fn [] tfs exB w h K) :
    ∃ (fd : F → FuncData) (fdw : FuncData), Tx K mg fd fdw := by
  have D := c.t.d
  have fd0 : ∀ j : F, ∃ d, FunD K (nm j) (nm j) (defArgs (st j)) (defBody (st j)) (defScope (st j)) [] [] (He.fAd K (nm j, none)) d := fun j => D.defs (d := dn j) (List.mem_append_left _ (List.mem_map_of_mem (allF_mem j)))
  obtain ⟨fd, hfd⟩ := Classical.axiomOfChoice fd0
  obtain ⟨fdw, hw⟩ := D.defs (d := dW) (List.mem_append_right _ (List.mem_singleton.mpr rfl))
  have g0 : ∀ f, f ∈ fGlo → f ∈ fa := fun f hf => List.mem_append_left _ hf
  have g1 : ∀ f, f ∈ fFree → f ∈ fa := fun f hf => List.mem_append_right _ (List.mem_append_left _ hf)
  have g2 : ∀ f, f ∈ fInts → f ∈ fa := fun f hf => List.mem_append_right _ (List.mem_append_right _ (List.mem_append_left _ hf))
  have g3 : ∀ f, f ∈ fStrs → f ∈ fa := fun f hf => List.mem_append_right _ (List.mem_append_right _ (List.mem_append_right _ (List.mem_append_left _ hf)))
  have g4 : ∀ f, f ∈ fGx → f ∈ fa := fun f hf => List.mem_append_right _ (List.mem_append_right _ (List.mem_append_right _ (List.mem_append_right _ (List.mem_append_left _ hf))))
  have g5 : ∀ f, f ∈ fEx → f ∈ fa := fun f hf => List.mem_append_right _ (List.mem_append_right _ (List.mem_append_right _ (List.mem_append_right _ (List.mem_append_right _ (List.mem_append_left _ hf)))))
  have g6 : ∀ f, f ∈ fXm → f ∈ fa := fun f hf => List.mem_append_right _ (List.mem_append_right _ (List.mem_append_right _ (List.mem_append_right _ (List.mem_append_right _ (List.mem_append_right _ hf)))))
  refine ⟨fd, fdw, ⟨fun j => ?_, hfd, fun j => ?_, ?_, ?_, ?_, ?_, ?_, ?_, ?_, ?_, ?_, ?_, ?_, ?_, ?_, ?_, ?_, ?_, ?_, ?_, ?_, ?_, ?_, ?_, hw, ?_, fun k hk => ?_, fun k hk => ?_, fun k j hk hj => ?_⟩⟩
  · exact He.glo_ok X G (D.facts (f := .glo (nm j)) (g0 _ (List.mem_append_left _ (List.mem_map_of_mem (f := fun j => He.Fa.glo (nm j)) (allF_mem j)))))
  · cases j with
    | is_int => exact FunD.bindsN (ps := ps .is_int) (hfd .is_int) fun _ _ _ _ _ _ us hl => match us, hl with | [_, _, _], _ => rfl
    | rules_so => exact FunD.bindsN (ps := ps .rules_so) (hfd .rules_so) fun _ _ _ _ _ _ us hl => match us, hl with | [_], _ => rfl
    | need_rule => exact FunD.bindsN (ps := ps .need_rule) (hfd .need_rule) fun _ _ _ _ _ _ us hl => match us, hl with | [_], _ => rfl
    | need_number => exact FunD.bindsN (ps := ps .need_number) (hfd .need_number) fun _ _ _ _ _ _ us hl => match us, hl with | [_, _, _], _ => rfl
    | served => exact FunD.bindsN (ps := ps .served) (hfd .served) fun _ _ _ _ _ _ us hl => match us, hl with | [_, _, _], _ => rfl
    | is_caught => exact FunD.bindsN (ps := ps .is_caught) (hfd .is_caught) fun _ _ _ _ _ _ us hl => match us, hl with | [_, _, _, _], _ => rfl
    | stops_of => exact FunD.bindsN (ps := ps .stops_of) (hfd .stops_of) fun _ _ _ _ _ _ us hl => match us, hl with | [_, _], _ => rfl
    | caught_so => exact FunD.bindsN (ps := ps .caught_so) (hfd .caught_so) fun _ _ _ _ _ _ us hl => match us, hl with | [_, _, _, _], _ => rfl
    | need_all => exact FunD.bindsN (ps := ps .need_all) (hfd .need_all) fun _ _ _ _ _ _ us hl => match us, hl with | [_, _], _ => rfl
    | caught => exact FunD.bindsN (ps := ps .caught) (hfd .caught) fun _ _ _ _ _ _ us hl => match us, hl with | [_, _, _, _], _ => rfl
    | most_hurts => exact FunD.bindsN (ps := ps .most_hurts) (hfd .most_hurts) fun _ _ _ _ _ _ us hl => match us, hl with | [_, _, _], _ => rfl
    | least_bench => exact FunD.bindsN (ps := ps .least_bench) (hfd .least_bench) fun _ _ _ _ _ _ us hl => match us, hl with | [_, _, _], _ => rfl
    | hurts_least => exact FunD.bindsN (ps := ps .hurts_least) (hfd .hurts_least) fun _ _ _ _ _ _ us hl => match us, hl with | [_, _, _], _ => rfl
    | mends => exact FunD.bindsN (ps := ps .mends) (hfd .mends) fun _ _ _ _ _ _ us hl => match us, hl with | [_, _, _, _], _ => rfl
    | law_flask_of => exact FunD.bindsN (ps := ps .law_flask_of) (hfd .law_flask_of) fun _ _ _ _ _ _ us hl => match us, hl with | [_, _], _ => rfl
    | law_sip => exact FunD.bindsN (ps := ps .law_sip) (hfd .law_sip) fun _ _ _ _ _ _ us hl => match us, hl with | [_, _], _ => rfl
    | law_some => exact FunD.bindsN (ps := ps .law_some) (hfd .law_some) fun _ _ _ _ _ _ us hl => match us, hl with | [_, _], _ => rfl
    | law_code => exact FunD.bindsN (ps := ps .law_code) (hfd .law_code) fun _ _ _ _ _ _ us hl => match us, hl with | [_], _ => rfl
    | law_lost => exact FunD.bindsN (ps := ps .law_lost) (hfd .law_lost) fun _ _ _ _ _ _ us hl => match us, hl with | [_, _, _, _, _], _ => rfl
    | law_mended => exact FunD.bindsN (ps := ps .law_mended) (hfd .law_mended) fun _ _ _ _ _ _ us hl => match us, hl with | [_, _, _, _], _ => rfl
    | law_refused => exact FunD.bindsN (ps := ps .law_refused) (hfd .law_refused) fun _ _ _ _ _ _ us hl => match us, hl with | [_], _ => rfl
    | law => exact FunD.bindsN (ps := ps .law) (hfd .law) fun _ _ _ _ _ _ us hl => match us, hl with | [_], _ => rfl
  · exact He.free_ok X G (D.facts (f := .free "abs") (g1 _ (by simp [fFree])))
  · exact He.free_ok X G (D.facts (f := .free "bool") (g1 _ (by simp [fFree])))
  · exact He.free_ok X G (D.facts (f := .free "enumerate") (g1 _ (by simp [fFree])))
  · exact He.free_ok X G (D.facts (f := .free "int") (g1 _ (by simp [fFree])))
  · exact He.free_ok X G (D.facts (f := .free "isinstance") (g1 _ (by simp [fFree])))
  · exact He.free_ok X G (D.facts (f := .free "len") (g1 _ (by simp [fFree])))
  · exact He.free_ok X G (D.facts (f := .free "list") (g1 _ (by simp [fFree])))
  · exact He.free_ok X G (D.facts (f := .free "max") (g1 _ (by simp [fFree])))
  · exact He.free_ok X G (D.facts (f := .free "min") (g1 _ (by simp [fFree])))
  · exact He.free_ok X G (D.facts (f := .free "range") (g1 _ (by simp [fFree])))
  · exact He.free_ok X G (D.facts (f := .free "set") (g1 _ (by simp [fFree])))
  · exact He.free_ok X G (D.facts (f := .free "sorted") (g1 _ (by simp [fFree])))
  · exact He.free_ok X G (D.facts (f := .free "tuple") (g1 _ (by simp [fFree])))
  · exact He.int_ok X G (D.facts (f := .int "GREAT" 1000000000000000000000000000000) (g2 _ (by simp [fInts])))
  · exact He.int_ok X G (D.facts (f := .int "LAST_PAUSE" 12) (g2 _ (by simp [fInts])))
  · exact He.int_ok X G (D.facts (f := .int "MOST_BENCH" 20) (g2 _ (by simp [fInts])))
  · exact He.int_ok X G (D.facts (f := .int "MOST_CHANGES" 5) (g2 _ (by simp [fInts])))
  · exact He.int_ok X G (D.facts (f := .int "MOST_KNOCKS" 2) (g2 _ (by simp [fInts])))
  · exact He.int_ok X G (D.facts (f := .int "MOST_PAUSES" 2) (g2 _ (by simp [fInts])))
  · exact He.int_ok X G (D.facts (f := .int "MOST_WINDOWS" 4) (g2 _ (by simp [fInts])))
  · refine ⟨He.glo_ok X G (D.facts (f := .glo "WORDS") (g0 _ (List.mem_append_right _ (by simp)))), ?_⟩
    have m := c.more
    simp only [exB, Bool.and_eq_true] at m
    simp only [m]
  · exact He.glo_ok X G (D.facts (f := .glo "_law_word") (g0 _ (List.mem_append_right _ (by simp))))
  · exact FunD.bindsN (ps := ["call"]) hw fun _ _ _ _ _ _ us hl => match us, hl with | [_], _ => rfl
  · exact He.glo_ok X G (D.facts (f := .glo (exNm.getD k "")) (g4 _ (List.mem_map.mpr ⟨k, List.mem_range.mpr hk, rfl⟩)))
  · exact He.exc_ok (D.facts (f := .exc (exNm.getD k "")) (g5 _ (List.mem_map.mpr ⟨k, List.mem_range.mpr hk, rfl⟩)))
  · exact He.exm_ok (D.facts (f := .exm (exNm.getD k "") (exNm.getD j "") (decide (k = j))) (g6 _ (List.mem_flatMap.mpr ⟨k, List.mem_range.mpr hk, List.mem_map.mpr ⟨j, List.mem_range.mpr hj, rfl⟩⟩)))
theorem tabs_of {K : PySem.W.Frag} {p : Addr × Str} (hp : p ∈ tabs K) : ∃ q ∈ tfs, p.1 = (He.cT K q).2 := by
  unfold tabs at hp
  simp only [List.mem_cons, List.not_mem_nil, or_false] at hp
  rcases hp with rfl
  · exact ⟨_, tf_law_refused, rfl⟩
section
open PySem.W PySem.Calls
abbrev dL : DefRec := HandSHeadRun.topDef R.prog 48
theorem e1 : opening R.prog = plainProg R.prog.main.scope.names := by kernel_rfl
theorem e2 (s) : fenceModules? R.prog s = some s := by kernel_rfl
theorem e3 : defOf (view R.prog [48]) R.name = some (dL, []) := by kernel_rfl
theorem e4 : R.prog.theDef R.name = some (dL.params, dL.body, dL.scope) := by kernel_rfl
theorem e5 : kwWritten? dL.params.kwonlyargs dL.params.kw_defaults = some [] := by kernel_rfl
theorem e6 : (!R.writes || R.records.isEmpty) = true := by rfl
theorem e7 : R.wellSaid = true := by decide +kernel
theorem e8 : (chainsOk (view R.prog [48]) && opensWell R.prog && (frees R.toRowW && R.within.isEmpty)) = true := by decide +kernel
theorem e9 : R.prog.bare := ⟨rfl, rfl, rfl, rfl, rfl, by decide +kernel⟩
theorem e10 : R.toRowW.promised := by w_witness2
theorem e11 : dL.name = ("law" : PySem.Str) := by kernel_rfl
theorem e12 : dL.params.defaults = [] := by kernel_rfl
end
end L3

/-! The end of law 07, printed by gen.py. -/
open PySem PySem.W PySem.Calls PyProof.Rows
theorem L3.end_of (hlaw : ∃ N, 3 * N ≤ 225 ∧ ∀ (ns : List Int) (d : L3.D) (g : L3.GH), ns.length ≤ 63 → L3.lstOf g d = some (ns.map L3.D.int) → (d = .rol (ns.map L3.D.int) ∨ d = .ref 0) → ∃ g', L3.run N .law [d] g = .ok (.bl true) g') : PySem.Challenge.rw_benchstops_k07_numbers_against_a_foe.Holds := by
  obtain ⟨N, hN, hlaw⟩ := hlaw
  w_on; o_law
  refine HandSHeadRun.head_any (r := OpenLaw.row PySem.Challenge.rw_benchstops_k07_numbers_against_a_foe) (q := view (OpenLaw.row PySem.Challenge.rw_benchstops_k07_numbers_against_a_foe).prog [48]) (H := L3.hk) (ob := L3.ob) (M := 4000) (loose := L3.loose) (d := HandSHeadRun.topDef (OpenLaw.row PySem.Challenge.rw_benchstops_k07_numbers_against_a_foe).prog 48) (kwd := []) L3.ob_eq
    L3.e1 L3.e2 L3.runs L3.e3 L3.e4 L3.e5 L3.e6 L3.e7 L3.e8 L3.e9 L3.e10 ?hc
  case hc =>
    refine LamX.walk_ofTsE (l := PySem.Challenge.rw_benchstops_k07_numbers_against_a_foe) (n := 63) (k := 3 * N) (x := "script") (CX := fun w => L2.CX (PySem.Challenge.rw_benchstops_k07_numbers_against_a_foe).prog w) rfl (by decide) L3.e12 (L2.Room.mono (k := 225) ⟨rfl, by decide, by decide⟩ hN) ?F ?X
    case X => exact fun _ _ _ _ _ z => L3.cx_nil z
    intro w mg fa h Y G hmg0
    obtain ⟨K, KX, c⟩ := Y
    obtain ⟨fd, fdw, T⟩ := L3.facts KX G c
    have hmg : mg ("law" : PySem.Str) = some (.ref fa) := by
      have e := L3.e11
      rw [← e]
      exact hmg0
    have ef : fa = He.fAd K ("law", none) := Value.ref.inj (Option.some.inj (hmg.symm.trans (T.mgF .law)))
    refine ⟨K, KX, fd .law, L3.tfs.map (He.cT K), L3.spOf (L3.zOf K (PySem.Challenge.rw_benchstops_k07_numbers_against_a_foe).prog w) 1 (L3.run N .law), ?_, ?_, ?_, ?_, ?_, ?_⟩
    · intro p hp
      obtain ⟨q, hq, rfl⟩ := List.mem_map.mp hp
      exact c.empty q hq
    · intro p hp
      obtain ⟨q, hq, rfl⟩ := List.mem_map.mp hp
      exact c.out q hq
    · intro p hp
      obtain ⟨q, hq, rfl⟩ := List.mem_map.mp hp
      exact PySem.W.codeHd_of_K KX (c.hd q hq)
    · exact fun s u => L3.binds_law T s u
    · intro H a ns hl hb ht hS
      refine L3.law_sp (Z := L3.zOf K (PySem.Challenge.rw_benchstops_k07_numbers_against_a_foe).prog w) (fun p hp => ?_) hS fun d g e o => hlaw ns d g hl e o
      obtain ⟨q, hq, e⟩ := L3.tabs_of hp
      rw [e]
      exact LamX.TabS.nil (ht _ (List.mem_map_of_mem hq))
    · intro base KB GB TB
      rw [ef]
      have GBm : L3.Tx K mg fd fdw := T
      exact L3.all_ok T (fun p hp => TB _ (List.mem_map_of_mem hp)) N .law

theorem PySem.Challenge.cw_benchstops_k07_numbers_against_a_foe_holds : PySem.Challenge.rw_benchstops_k07_numbers_against_a_foe.Holds := by
  exact L3.end_of L3.law_true
