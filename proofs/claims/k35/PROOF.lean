import PyProof.Rows.All
import Wide.All
import OpenK.AllK
import Wide.FinOn
import HandS.ForMost
import HandS.TupAny
import HandS.TupLe
import HandS.Zip
import HandS.Strs
import HandS.IsInst
import HandS.Small
import HandS.Rev
import HandS.SortInts
import HandS.Lambda
import HandS.Deep
import HandS.TupMul
import HandS.More
import HandS.NoneIn
import HandS.TryOnly
import HandS.Style
import HandS.Words
import PyProof.ReprRoads
import HandS.SetFor
import PyProof.TupleOps
import PyProof.DictUpdate
import PyProof.EvalArms
import KE.SortKeyHeap
import HandS.SortKw
import HandS.EndTab
import PySem.Challenge.RW_earlysettled_k35_whole_patterns_and_plac
set_option Elab.async false
set_option linter.all false
set_option maxRecDepth 100000
set_option maxHeartbeats 4000000
/-! Mx1: data as trees, a store of the lists and dicts that a run makes, and how they lie in the abstract heap. -/
namespace Mx
open PySem PySem.Spec L2

/-- the built-in classes that isinstance is asked for -/
inductive Ty where
  | non | bool | int | str | tuple | list | dict
  deriving DecidableEq, Inhabited
def Ty.name : Ty → String
  | .non => "NoneType"
  | .bool => "bool"
  | .int => "int"
  | .str => "str"
  | .tuple => "tuple"
  | .list => "list"
  | .dict => "dict"
/-- a value: tuples made on the way (tup) and of the module (rot) are trees, rol a list that nobody writes, ref a place of the store -/
inductive D where
  | non | bl (b : Bool) | int (i : Int) | str (x : Str) | tup (ds : List D) | rot (ds : List D) | rol (ds : List D) | ref (n : Nat) | ty (t : Ty)
  deriving Inhabited

/-- what stands at a place of the store -/
inductive O where
  | lst (ds : List D)
  | dic (kvs : List (Key × D))
  | dit (kvs : List (List Key × D))
  | dif (kvs : List (Key × D))
  deriving Inhabited

abbrev S := List O
def M (α : Type) := S → Option (α × S)
instance : Monad M where
  pure a := fun s => some (a, s)
  bind m f := fun s => match m s with
    | none => none
    | some (a, s') => f a s'
def fail {α : Type} : M α := fun _ => none
abbrev Es := List (Option D)

/-! ### how data lie in the heap -/
/-- a list that is read alone: locked, or of the module -/
def RoL (K : PySem.W.Frag) (H : Hp) (a : Addr) (xs : List V) : Prop :=
  (∃ o, H a = some (.frz o (.lst xs))) ∨
    ∃ (o : Obj) (its : Array Value) (n : Nat), K.lookup a = some o ∧ o.cls = .type "list" ∧ o.dict = none ∧ o.data = .seq its n ∧ its.size ≤ sizeLine ∧ Vals xs its.toList
theorem RoL.sq {K : PySem.W.Frag} {H : Hp} {a : Addr} {xs : List V} (h : RoL K H a xs) : SqL K H a xs := by
  rcases h with ⟨o, h⟩ | h
  · exact .inl (.inr ⟨o, h⟩)
  · exact .inr h

section
variable (K : PySem.W.Frag) (ρ : List Addr) (H : Hp)
mutual
def DR : D → V → Prop
  | .non, v => v = .non
  | .bl b, v => v = .bl b
  | .int i, v => v = .int i
  | .str x, v => v = .str x
  | .ty t, v => v = .ty t.name
  | .ref n, v => ∃ a, v = .ref a ∧ ρ[n]? = some a
  | .tup ds, v => ∃ a vs, v = .ref a ∧ H a = some (.tup vs) ∧ DRs ds vs
  | .rot ds, v => ∃ a vs, v = .ref a ∧ SqT K H a vs ∧ DRs ds vs
  | .rol ds, v => ∃ a vs, v = .ref a ∧ RoL K H a vs ∧ DRs ds vs
def DRs : List D → List V → Prop
  | [], vs => vs = []
  | d :: ds, vs => ∃ v r, vs = v :: r ∧ DR d v ∧ DRs ds r
end
def KR {κ : Type} : List (κ × D) → List (κ × V) → Prop
  | [], ws => ws = []
  | p :: ps, ws => ∃ q r, ws = q :: r ∧ p.1 = q.1 ∧ DR K ρ H p.2 q.2 ∧ KR ps r
def OR (a : Addr) : O → Prop
  | .lst ds => ∃ vs, H a = some (.lst vs) ∧ DRs K ρ H ds vs
  | .dic kvs => ∃ ws, H a = some (.dK ws) ∧ KR K ρ H kvs ws
  | .dit kvs => ∃ ws, H a = some (.dT ws) ∧ KR K ρ H kvs ws
  | .dif kvs => ∃ ob ws, H a = some (.frz ob (.dK ws)) ∧ KR K ρ H kvs ws
/-- the store stands as it is told; the tables of code objects too -/
structure Rel (T : List (Addr × Str)) (K : PySem.W.Frag) (ρ : List Addr) (H : Hp) (st : S) : Prop where
  tab : LamX.Tabs T H
  len : ρ.length = st.length
  nd : ρ.Nodup
  obj : ∀ (i : Nat) (a : Addr) (o : O), ρ[i]? = some a → st[i]? = some o → OR K ρ H a o
/-- the names' values -/
def ER (es : Es) (σ : St) : Prop := es.length = σ.length ∧ ∀ (i : Nat) (d : D), es[i]? = some (some d) → ∃ v, σ[i]? = some (some v) ∧ DR K ρ H d v
end
/-- a later world: older objects that are not of the store stand as they stood -/
structure Ext (ρ : List Addr) (H : Hp) (ρ' : List Addr) (H' : Hp) : Prop where
  pre : ρ <+: ρ'
  new : ∀ b ∈ ρ', b ∈ ρ ∨ H b = none
  keep : ∀ a o, H a = some o → a ∉ ρ → (∀ ps, o ≠ .tbl ps) → H' a = some o
  tbl : ∀ a ps, H a = some (.tbl ps) → ∃ more, H' a = some (.tbl (ps ++ more))
theorem tbl_same {H : Hp} {a : Addr} {ps : Array Value} (h : H a = some (.tbl ps)) : ∃ more, H a = some (.tbl (ps ++ more)) := ⟨#[], by rw [h]; simp⟩
theorem Ext.refl (ρ : List Addr) (H : Hp) : Ext ρ H ρ H := ⟨List.prefix_refl _, fun _ h => .inl h, fun _ _ h _ _ => h, fun _ _ h => tbl_same h⟩
theorem Ext.there {ρ ρ' : List Addr} {H H' : Hp} (e : Ext ρ H ρ' H') {a : Addr} {o : HO} (h : H a = some o) (hn : a ∉ ρ) : ∃ o', H' a = some o' := by
  by_cases q : ∃ ps, o = .tbl ps
  · obtain ⟨ps, rfl⟩ := q
    obtain ⟨m, z⟩ := e.tbl a ps h
    exact ⟨_, z⟩
  · exact ⟨o, e.keep a o h hn fun ps z => q ⟨ps, z⟩⟩
theorem Ext.trans {ρ ρ1 ρ2 : List Addr} {H H1 H2 : Hp} (a : Ext ρ H ρ1 H1) (b : Ext ρ1 H1 ρ2 H2) : Ext ρ H ρ2 H2 := by
  refine ⟨a.pre.trans b.pre, fun c hc => ?_, fun c o h hn ht => ?_, fun c ps h => ?_⟩
  · by_cases hr : c ∈ ρ
    · exact .inl hr
    · right
      cases q : H c with
      | none => rfl
      | some o =>
        obtain ⟨o1, q1⟩ := a.there q hr
        rcases b.new c hc with z | z
        · rcases a.new c z with z | z
          · exact absurd z hr
          · rw [q] at z; cases z
        · rw [q1] at z; cases z
  · refine b.keep c o (a.keep c o h hn ht) (fun z => ?_) ht
    rcases a.new c z with z | z
    · exact hn z
    · rw [h] at z; cases z
  · obtain ⟨m, h1⟩ := a.tbl c ps h
    obtain ⟨m2, h2⟩ := b.tbl c _ h1
    exact ⟨m ++ m2, by rw [h2, Array.append_assoc]⟩
theorem Ext.get {ρ ρ' : List Addr} {H H' : Hp} (e : Ext ρ H ρ' H') {i : Nat} {a : Addr} (h : ρ[i]? = some a) : ρ'[i]? = some a := by
  obtain ⟨t, rfl⟩ := e.pre
  have hi := (List.getElem?_eq_some_iff.mp h).1
  rw [List.getElem?_append_left hi]; exact h

section
variable {T : List (Addr × Str)} {K : PySem.W.Frag} {ρ ρ' : List Addr} {H H' : Hp} {st st' : S}
/-- what the store's places hold -/
def StO (u : HO) : Prop := (∃ xs, u = .lst xs) ∨ (∃ ws, u = .dK ws) ∨ (∃ ws, u = .dT ws) ∨ ∃ ob ws, u = .frz ob (.dK ws)
theorem OR.some {a : Addr} {o : O} (h : OR K ρ H a o) : ∃ u, H a = some u ∧ StO u := by
  cases o with
  | lst ds => obtain ⟨vs, h, _⟩ := h; exact ⟨_, h, .inl ⟨_, rfl⟩⟩
  | dic kvs => obtain ⟨ws, h, _⟩ := h; exact ⟨_, h, .inr (.inl ⟨_, rfl⟩)⟩
  | dit kvs => obtain ⟨ws, h, _⟩ := h; exact ⟨_, h, .inr (.inr (.inl ⟨_, rfl⟩))⟩
  | dif kvs => obtain ⟨ob, ws, h, _⟩ := h; exact ⟨_, h, .inr (.inr (.inr ⟨_, _, rfl⟩))⟩
theorem Rel.at (R : Rel T K ρ H st) {b : Addr} (h : b ∈ ρ) : ∃ u, H b = some u ∧ StO u := by
  obtain ⟨i, hi, e⟩ := List.getElem_of_mem h
  have e1 : ρ[i]? = some b := by rw [List.getElem?_eq_getElem hi, e]
  have hi2 : i < st.length := by rw [← R.len]; exact hi
  exact (R.obj i b st[i] e1 (List.getElem?_eq_getElem hi2)).some
theorem Rel.tupNot (R : Rel T K ρ H st) {a : Addr} {vs : List V} (h : H a = some (.tup vs)) : a ∉ ρ := fun z => by
  obtain ⟨u, e, q⟩ := R.at z
  rw [h] at e; cases e
  rcases q with ⟨_, q⟩ | ⟨_, q⟩ | ⟨_, q⟩ | ⟨_, _, q⟩ <;> cases q
theorem Rel.frzNot (R : Rel T K ρ H st) {a : Addr} {o : Obj} {u : HO} (h : H a = some (.frz o u)) (n : ∀ ws, u ≠ .dK ws) : a ∉ ρ := fun z => by
  obtain ⟨u, e, q⟩ := R.at z
  rw [h] at e; cases e
  rcases q with ⟨_, q⟩ | ⟨_, q⟩ | ⟨_, q⟩ | ⟨_, ws, q⟩
  · cases q
  · cases q
  · cases q
  · cases q; exact n ws rfl
theorem SqT.ext (R : Rel T K ρ H st) (e : Ext ρ H ρ' H') {a : Addr} {vs : List V} (h : SqT K H a vs) : SqT K H' a vs := by
  rcases h with (h | ⟨o, h⟩) | h
  · exact .inl (.inl (e.keep _ _ h (R.tupNot h) (fun _ z => nomatch z)))
  · exact .inl (.inr ⟨o, e.keep _ _ h (R.frzNot h fun _ z => nomatch z) (fun _ z => nomatch z)⟩)
  · exact .inr h
theorem RoL.ext (R : Rel T K ρ H st) (e : Ext ρ H ρ' H') {a : Addr} {vs : List V} (h : RoL K H a vs) : RoL K H' a vs := by
  rcases h with ⟨o, h⟩ | h
  · exact .inl ⟨o, e.keep _ _ h (R.frzNot h fun _ z => nomatch z) (fun _ z => nomatch z)⟩
  · exact .inr h
mutual
theorem DR.ext (R : Rel T K ρ H st) (e : Ext ρ H ρ' H') : ∀ (d : D) (v : V), DR K ρ H d v → DR K ρ' H' d v
  | .non, _, h => by rw [DR] at h ⊢; exact h
  | .bl _, _, h => by rw [DR] at h ⊢; exact h
  | .int _, _, h => by rw [DR] at h ⊢; exact h
  | .str _, _, h => by rw [DR] at h ⊢; exact h
  | .ty _, _, h => by rw [DR] at h ⊢; exact h
  | .ref n, _, h => by rw [DR] at h ⊢; obtain ⟨a, h1, h2⟩ := h; exact ⟨a, h1, e.get h2⟩
  | .tup ds, _, h => by rw [DR] at h ⊢; obtain ⟨a, vs, h1, h2, h3⟩ := h; exact ⟨a, vs, h1, e.keep _ _ h2 (R.tupNot h2) (fun _ z => nomatch z), DRs.ext R e ds vs h3⟩
  | .rot ds, _, h => by rw [DR] at h ⊢; obtain ⟨a, vs, h1, h2, h3⟩ := h; exact ⟨a, vs, h1, SqT.ext R e h2, DRs.ext R e ds vs h3⟩
  | .rol ds, _, h => by rw [DR] at h ⊢; obtain ⟨a, vs, h1, h2, h3⟩ := h; exact ⟨a, vs, h1, RoL.ext R e h2, DRs.ext R e ds vs h3⟩
theorem DRs.ext (R : Rel T K ρ H st) (e : Ext ρ H ρ' H') : ∀ (ds : List D) (vs : List V), DRs K ρ H ds vs → DRs K ρ' H' ds vs
  | [], _, h => by rw [DRs] at h ⊢; exact h
  | d :: ds, _, h => by
    rw [DRs] at h ⊢
    obtain ⟨v, r, h1, h2, h3⟩ := h
    exact ⟨v, r, h1, DR.ext R e d v h2, DRs.ext R e ds r h3⟩
end
theorem KR.ext {κ : Type} (R : Rel T K ρ H st) (e : Ext ρ H ρ' H') : ∀ (ps : List (κ × D)) (ws : List (κ × V)), KR K ρ H ps ws → KR K ρ' H' ps ws
  | [], _, h => h
  | p :: ps, _, ⟨q, r, h1, h2, h3, h4⟩ => ⟨q, r, h1, h2, DR.ext R e _ _ h3, KR.ext R e ps r h4⟩
theorem ER.ext (R : Rel T K ρ H st) (e : Ext ρ H ρ' H') {es : Es} {σ : St} (h : ER K ρ H es σ) : ER K ρ' H' es σ :=
  ⟨h.1, fun i d hi => let ⟨v, h1, h2⟩ := h.2 i d hi; ⟨v, h1, DR.ext R e d v h2⟩⟩
theorem ER.set {es : Es} {σ : St} {i : Nat} {d : D} {v : V} (h : ER K ρ H es σ) (hd : DR K ρ H d v) : ER K ρ H (es.set i (some d)) (σ.set i (some v)) := by
  refine ⟨by rw [List.length_set, List.length_set]; exact h.1, fun j e hj => ?_⟩
  by_cases hij : i = j
  · subst hij
    have hl : i < es.length := by
      have := (List.getElem?_eq_some_iff.mp hj).1
      rw [List.length_set] at this; exact this
    rw [List.getElem?_set_self hl] at hj
    have hj' : d = e := Option.some.inj (Option.some.inj hj)
    subst hj'
    exact ⟨v, List.getElem?_set_self (by rw [← h.1]; exact hl), hd⟩
  · rw [List.getElem?_set_ne hij] at hj
    obtain ⟨w, h1, h2⟩ := h.2 j e hj
    exact ⟨w, by rw [List.getElem?_set_ne hij]; exact h1, h2⟩
theorem ER.clear {es : Es} {σ : St} {i : Nat} (h : ER K ρ H es σ) : ER K ρ H (es.set i none) (σ.set i none) := by
  refine ⟨by rw [List.length_set, List.length_set]; exact h.1, fun j e hj => ?_⟩
  by_cases hij : i = j
  · subst hij
    have hl : i < es.length := by
      have := (List.getElem?_eq_some_iff.mp hj).1
      rw [List.length_set] at this; exact this
    rw [List.getElem?_set_self hl] at hj
    cases Option.some.inj hj
  · rw [List.getElem?_set_ne hij] at hj
    obtain ⟨w, h1, h2⟩ := h.2 j e hj
    exact ⟨w, by rw [List.getElem?_set_ne hij]; exact h1, h2⟩
theorem DRs.length : ∀ {ds : List D} {vs : List V}, DRs K ρ H ds vs → vs.length = ds.length
  | [], _, h => by rw [DRs] at h; subst h; rfl
  | d :: ds, _, h => by
    rw [DRs] at h
    obtain ⟨v, r, rfl, h2, h3⟩ := h
    simp [DRs.length h3]
theorem DRs.get : ∀ {ds : List D} {vs : List V} {i : Nat} {d : D}, DRs K ρ H ds vs → ds[i]? = some d → ∃ v, vs[i]? = some v ∧ DR K ρ H d v
  | [], _, _, _, _, e => by simp at e
  | d :: ds, _, 0, _, h, e => by
    rw [DRs] at h
    obtain ⟨v, r, rfl, h2, h3⟩ := h
    simp at e; subst e
    exact ⟨v, rfl, h2⟩
  | d :: ds, _, i + 1, x, h, e => by
    rw [DRs] at h
    obtain ⟨v, r, rfl, h2, h3⟩ := h
    obtain ⟨w, e1, e2⟩ := DRs.get (i := i) (d := x) h3 (by simpa using e)
    exact ⟨w, by simpa using e1, e2⟩
theorem DRs.append : ∀ {ds es : List D} {vs ws : List V}, DRs K ρ H ds vs → DRs K ρ H es ws → DRs K ρ H (ds ++ es) (vs ++ ws)
  | [], _, _, _, h, g => by rw [DRs] at h; subst h; exact g
  | d :: ds, _, _, _, h, g => by
    rw [DRs] at h
    obtain ⟨v, r, rfl, h2, h3⟩ := h
    show DRs K ρ H (d :: (ds ++ _)) (v :: (r ++ _))
    rw [DRs]
    exact ⟨v, _, rfl, h2, DRs.append h3 g⟩
theorem DRs.take : ∀ {ds : List D} {vs : List V} (n : Nat), DRs K ρ H ds vs → DRs K ρ H (ds.take n) (vs.take n)
  | _, _, 0, _ => by simp [DRs]
  | [], _, n + 1, h => by rw [DRs] at h; subst h; simp [DRs]
  | d :: ds, _, n + 1, h => by
    rw [DRs] at h
    obtain ⟨v, r, rfl, h2, h3⟩ := h
    rw [List.take_succ_cons, List.take_succ_cons, DRs]
    exact ⟨v, _, rfl, h2, DRs.take n h3⟩
theorem DRs.drop : ∀ {ds : List D} {vs : List V} (n : Nat), DRs K ρ H ds vs → DRs K ρ H (ds.drop n) (vs.drop n)
  | _, _, 0, h => h
  | [], _, n + 1, h => by rw [DRs] at h; subst h; simp [DRs]
  | d :: ds, _, n + 1, h => by
    rw [DRs] at h
    obtain ⟨v, r, rfl, h2, h3⟩ := h
    exact DRs.drop n h3
theorem DRs.nil : DRs K ρ H [] [] := by simp [DRs]
theorem DRs.cons {d : D} {ds : List D} {v : V} {vs : List V} (h : DR K ρ H d v) (g : DRs K ρ H ds vs) : DRs K ρ H (d :: ds) (v :: vs) := by
  rw [DRs]; exact ⟨v, vs, rfl, h, g⟩

/-! ### new and changed objects -/
theorem Ext.fresh {p : Addr} {u : HO} (h : H p = none) : Ext ρ H ρ (upd H p u) :=
  ⟨List.prefix_refl _, fun _ h => .inl h, fun a o q _ _ => by rw [upd_ne (ne_of_none q h)]; exact q, fun a ps q => by rw [upd_ne (ne_of_none q h)]; exact tbl_same q⟩
theorem Ext.tup {p : Addr} {vs : List V} (h : H p = none) : Ext ρ H ρ (upd H p (.tup vs)) := Ext.fresh h
theorem Ext.new' {p : Addr} {u : HO} (h : H p = none) : Ext ρ H (ρ ++ [p]) (upd H p u) := by
  refine ⟨List.prefix_append _ _, fun b hb => ?_, (Ext.fresh (ρ := ρ) h).keep, (Ext.fresh (ρ := ρ) h).tbl⟩
  rcases List.mem_append.mp hb with z | z
  · exact .inl z
  · have : b = p := by simpa using z
    subst this; exact .inr h
theorem StO.notTbl {u : HO} (h : StO u) : ∀ ps, u ≠ .tbl ps := fun ps z => by
  subst z
  rcases h with ⟨_, q⟩ | ⟨_, q⟩ | ⟨_, q⟩ | ⟨_, _, q⟩ <;> cases q
theorem StO.notCode {u : HO} (h : StO u) (c : Addr) (q : Str) : u ≠ LamX.CodeO c q := fun z => by
  unfold LamX.CodeO at z
  subst z
  rcases h with ⟨_, q⟩ | ⟨_, q⟩ | ⟨_, q⟩ | ⟨_, _, q⟩ <;> cases q
theorem Tabs.mv (t : LamX.Tabs T H) (e : ∀ b u, H b = some u → ¬ StO u → H' b = some u) : LamX.Tabs T H' := fun p hp => by
  obtain ⟨ps, h1, h2, h3⟩ := t p hp
  refine ⟨ps, e _ _ h1 fun z => z.notTbl ps rfl, h2, fun pos cv hc => ?_⟩
  obtain ⟨c, e1, e2⟩ := h3 pos cv hc
  exact ⟨c, e1, e _ _ e2 fun z => z.notCode _ _ rfl⟩
theorem Tabs.fresh {p : Addr} {u : HO} (t : LamX.Tabs T H) (h : H p = none) : LamX.Tabs T (upd H p u) := Tabs.mv t fun b w e _ => by rw [upd_ne (ne_of_none e h)]; exact e
theorem Tabs.put {p : Addr} {u v : HO} (t : LamX.Tabs T H) (h : H p = some v) (hv : StO v) : LamX.Tabs T (upd H p u) := Tabs.mv t fun b w e n => by
  rw [upd_ne (fun z => by subst z; rw [h] at e; cases e; exact n hv)]; exact e
theorem OR.ext (R : Rel T K ρ H st) (e : Ext ρ H ρ' H') {a : Addr} {o : O} (h : OR K ρ H a o) (hk : H' a = H a) : OR K ρ' H' a o := by
  cases o with
  | lst ds => obtain ⟨vs, h, g⟩ := h; exact ⟨vs, hk.trans h, DRs.ext R e _ _ g⟩
  | dic kvs => obtain ⟨ws, h, g⟩ := h; exact ⟨ws, hk.trans h, KR.ext R e _ _ g⟩
  | dit kvs => obtain ⟨ws, h, g⟩ := h; exact ⟨ws, hk.trans h, KR.ext R e _ _ g⟩
  | dif kvs => obtain ⟨ob, ws, h, g⟩ := h; exact ⟨ob, ws, hk.trans h, KR.ext R e _ _ g⟩
/-- a new tuple -/
theorem Rel.tup (R : Rel T K ρ H st) {p : Addr} {vs : List V} (h : H p = none) : Rel T K ρ (upd H p (.tup vs)) st := by
  refine ⟨Tabs.fresh R.tab h, R.len, R.nd, fun i a o hi ho => ?_⟩
  have q := R.obj i a o hi ho
  obtain ⟨u, hu, _⟩ := q.some
  exact q.ext R (Ext.tup h) (upd_ne (ne_of_none hu h))
/-- a new object of the store -/
theorem Rel.push (R : Rel T K ρ H st) {p : Addr} {u : HO} {o : O} (h : H p = none) (ho : ∀ H', H' p = some u → Ext ρ H (ρ ++ [p]) H' → OR K (ρ ++ [p]) H' p o) : Rel T K (ρ ++ [p]) (upd H p u) (st ++ [o]) := by
  have hp : p ∉ ρ := fun z => by
    obtain ⟨u, e, _⟩ := R.at z
    rw [h] at e; cases e
  refine ⟨Tabs.fresh R.tab h, by rw [List.length_append, List.length_append, R.len]; rfl, ?_, fun i a x hi hx => ?_⟩
  · rw [List.nodup_append]
    refine ⟨R.nd, by simp, fun a ha b hb e => ?_⟩
    have : b = p := by simpa using hb
    subst this; subst e; exact hp ha
  · by_cases hl : i < ρ.length
    · rw [List.getElem?_append_left hl] at hi
      rw [List.getElem?_append_left (by rw [← R.len]; exact hl)] at hx
      have q := R.obj i a x hi hx
      obtain ⟨w, hw, _⟩ := q.some
      exact q.ext R (Ext.new' h) (upd_ne (ne_of_none hw h))
    · have hle : ρ.length ≤ i := Nat.le_of_not_lt hl
      rw [List.getElem?_append_right hle] at hi
      rw [List.getElem?_append_right (by rw [← R.len]; exact hle)] at hx
      have hi0 : i - ρ.length = 0 := by
        have := (List.getElem?_eq_some_iff.mp hi).1
        simp at this; omega
      have hx0 : i - st.length = 0 := by rw [← R.len]; exact hi0
      rw [hi0] at hi
      rw [hx0] at hx
      simp at hi hx
      subst hi; subst hx
      exact ho _ upd_same (Ext.new' h)
/-- an object of the store changed -/
theorem Ext.put (R : Rel T K ρ H st) {i : Nat} {a : Addr} {u : HO} (hi : ρ[i]? = some a) : Ext ρ H ρ (upd H a u) :=
  ⟨List.prefix_refl _, fun _ h => .inl h, fun b o q hb _ => by rw [upd_ne (fun e => hb (by rw [e]; exact List.mem_of_getElem? hi))]; exact q, fun b ps q => by
    obtain ⟨u, e, z⟩ := R.at (List.mem_of_getElem? hi)
    rw [upd_ne (fun y => by subst y; rw [q] at e; cases e; exact z.notTbl ps rfl)]
    exact tbl_same q⟩
theorem Rel.put (R : Rel T K ρ H st) {i : Nat} {a : Addr} {u : HO} {o : O} (hi : ρ[i]? = some a) (ho : ∀ H', H' a = some u → Ext ρ H ρ H' → OR K ρ H' a o) : Rel T K ρ (upd H a u) (st.set i o) := by
  have il : i < ρ.length := (List.getElem?_eq_some_iff.mp hi).1
  obtain ⟨u0, hu0, z0⟩ := R.at (List.mem_of_getElem? hi)
  refine ⟨Tabs.put R.tab hu0 z0, by rw [List.length_set]; exact R.len, R.nd, fun j b x hj hx => ?_⟩
  by_cases e : i = j
  · subst e
    rw [hi] at hj; cases hj
    rw [List.getElem?_set_self (by rw [← R.len]; exact il)] at hx
    cases hx
    exact ho _ upd_same (Ext.put R hi)
  · rw [List.getElem?_set_ne e] at hx
    have q := R.obj j b x hj hx
    refine q.ext R (Ext.put R hi) (upd_ne fun z => ?_)
    subst z
    have jl : j < ρ.length := (List.getElem?_eq_some_iff.mp hj).1
    have e1 : ρ[i] = b := by rw [List.getElem?_eq_getElem il] at hi; exact Option.some.inj hi
    have e2 : ρ[j] = b := by rw [List.getElem?_eq_getElem jl] at hj; exact Option.some.inj hj
    exact e ((List.getElem_inj R.nd).mp (e1.trans e2.symm))
theorem Rel.lst (R : Rel T K ρ H st) {n : Nat} {v : V} {ds : List D} (hv : DR K ρ H (.ref n) v) (hs : st[n]? = some (.lst ds)) : ∃ a vs, v = .ref a ∧ ρ[n]? = some a ∧ H a = some (.lst vs) ∧ DRs K ρ H ds vs := by
  rw [DR] at hv
  obtain ⟨a, h1, h2⟩ := hv
  obtain ⟨vs, h3, h4⟩ := R.obj n a _ h2 hs
  exact ⟨a, vs, h1, h2, h3, h4⟩
theorem Rel.dic (R : Rel T K ρ H st) {n : Nat} {v : V} {kvs : List (Key × D)} (hv : DR K ρ H (.ref n) v) (hs : st[n]? = some (.dic kvs)) : ∃ a ws, v = .ref a ∧ ρ[n]? = some a ∧ H a = some (.dK ws) ∧ KR K ρ H kvs ws := by
  rw [DR] at hv
  obtain ⟨a, h1, h2⟩ := hv
  obtain ⟨vs, h3, h4⟩ := R.obj n a _ h2 hs
  exact ⟨a, vs, h1, h2, h3, h4⟩
theorem Rel.dit (R : Rel T K ρ H st) {n : Nat} {v : V} {kvs : List (List Key × D)} (hv : DR K ρ H (.ref n) v) (hs : st[n]? = some (.dit kvs)) : ∃ a ws, v = .ref a ∧ ρ[n]? = some a ∧ H a = some (.dT ws) ∧ KR K ρ H kvs ws := by
  rw [DR] at hv
  obtain ⟨a, h1, h2⟩ := hv
  obtain ⟨vs, h3, h4⟩ := R.obj n a _ h2 hs
  exact ⟨a, vs, h1, h2, h3, h4⟩
/-- the pairs of a dict with plain keys -/
def kvsOf : Option O → Option (List (Key × D))
  | some (.dic kvs) => some kvs
  | some (.dif kvs) => some kvs
  | _ => none
theorem Rel.rdk (R : Rel T K ρ H st) {n : Nat} {v : V} {kvs : List (Key × D)} (hv : DR K ρ H (.ref n) v) (hs : kvsOf st[n]? = some kvs) : ∃ a ws, v = .ref a ∧ ρ[n]? = some a ∧ Rd H a (.dK ws) ∧ KR K ρ H kvs ws := by
  rw [DR] at hv
  obtain ⟨a, h1, h2⟩ := hv
  cases q : st[n]? with
  | none => rw [q] at hs; cases hs
  | some o =>
    rw [q] at hs
    cases o with
    | dic k =>
      cases hs
      obtain ⟨vs, h3, h4⟩ := R.obj n a _ h2 q
      exact ⟨a, vs, h1, h2, .inl h3, h4⟩
    | dif k =>
      cases hs
      obtain ⟨ob, vs, h3, h4⟩ := R.obj n a _ h2 q
      exact ⟨a, vs, h1, h2, .inr ⟨ob, h3⟩, h4⟩
    | _ => cases hs
end
end Mx


/-! Mx2: what operators and built-in functions do with data, and that the model does just so. -/
namespace Mx
open PySem PySem.Spec L2
variable {T : List (Addr × Str)}

/-! ### readings by the store -/
def Post (T : List (Addr × Str)) (K : PySem.W.Frag) (ρ : List Addr) (H : Hp) (st : S) (d : D) (Q : VK) : Prop :=
  ∀ (ρ' : List Addr) (v : V) (H' : Hp), Ext ρ H ρ' H' → Rel T K ρ' H' st → DR K ρ' H' d v → Q v H'
def eM (T : List (Addr × Str)) (K : PySem.W.Frag) (m : Es → M D) : TE := fun σ H Q => ∃ (ρ : List Addr) (st : S) (es : Es) (d : D) (st' : S), Rel T K ρ H st ∧ ER K ρ H es σ ∧ m es st = some (d, st') ∧ Post T K ρ H st' d Q
def tM (T : List (Addr × Str)) (K : PySem.W.Frag) (m : Es → M Bool) : TT := fun σ H Q => ∃ (ρ : List Addr) (st : S) (es : Es) (b : Bool) (st' : S), Rel T K ρ H st ∧ ER K ρ H es σ ∧ m es st = some (b, st') ∧
  ∀ (ρ' : List Addr) (H' : Hp), Ext ρ H ρ' H' → Rel T K ρ' H' st' → Q b H'
def aM (T : List (Addr × Str)) (K : PySem.W.Frag) (m : Es → M (List D)) : TA := fun σ H Q => ∃ (ρ : List Addr) (st : S) (es : Es) (ds : List D) (st' : S), Rel T K ρ H st ∧ ER K ρ H es σ ∧ m es st = some (ds, st') ∧
  ∀ (ρ' : List Addr) (vs : List V) (H' : Hp), Ext ρ H ρ' H' → Rel T K ρ' H' st' → DRs K ρ' H' ds vs → Q vs H'
def r2M (T : List (Addr × Str)) (K : PySem.W.Frag) (g : D → D → M D) : R2 := fun x y H Q => ∃ (ρ : List Addr) (st : S) (a b d : D) (st' : S), Rel T K ρ H st ∧ DR K ρ H a x ∧ DR K ρ H b y ∧ g a b st = some (d, st') ∧ Post T K ρ H st' d Q
def rnM (T : List (Addr × Str)) (K : PySem.W.Frag) (g : List D → M D) : List V → Hp → VK → Prop := fun xs H Q => ∃ (ρ : List Addr) (st : S) (as : List D) (d : D) (st' : S), Rel T K ρ H st ∧ DRs K ρ H as xs ∧ g as st = some (d, st') ∧ Post T K ρ H st' d Q
def rmM (T : List (Addr × Str)) (K : PySem.W.Frag) (g : D → List D → M D) : V → List V → Hp → VK → Prop := fun x xs H Q => ∃ (ρ : List Addr) (st : S) (a : D) (as : List D) (d : D) (st' : S), Rel T K ρ H st ∧ DR K ρ H a x ∧ DRs K ρ H as xs ∧ g a as st = some (d, st') ∧ Post T K ρ H st' d Q

theorem bind_some {α β : Type} {m : M α} {f : α → M β} {s s' : S} {b : β} (h : (m >>= f) s = some (b, s')) : ∃ a s1, m s = some (a, s1) ∧ f a s1 = some (b, s') := by
  have h' : (match m s with | none => none | some (a, s1) => f a s1) = some (b, s') := h
  cases q : m s with
  | none => rw [q] at h'; cases h'
  | some p => rw [q] at h'; exact ⟨p.1, p.2, rfl, h'⟩
theorem pure_some {α : Type} {a b : α} {s s' : S} (h : (pure a : M α) s = some (b, s')) : b = a ∧ s' = s := by
  have h' : some (a, s) = some (b, s') := h
  cases h'; exact ⟨rfl, rfl⟩
theorem bind_eq {α β : Type} {m : M α} {f : α → M β} {s s1 : S} {a : α} (h : m s = some (a, s1)) : (m >>= f) s = f a s1 := by
  show (match m s with | none => none | some (a, s1) => f a s1) = _
  rw [h]
theorem bind_none {α β : Type} {m : M α} {f : α → M β} {s : S} (h : m s = none) : (m >>= f) s = none := by
  show (match m s with | none => none | some (a, s1) => f a s1) = _
  rw [h]

section
variable {K : PySem.W.Frag} {ρ : List Addr} {H : Hp} {st st' : S} {Q : VK} {d : D}
theorem Post.now {v : V} (R : Rel T K ρ H st) (k : Post T K ρ H st d Q) (h : DR K ρ H d v) : Q v H := k ρ v H (Ext.refl _ _) R h
theorem Post.tup {ds : List D} {vs : List V} (R : Rel T K ρ H st) (k : Post T K ρ H st (.tup ds) Q) (h : DRs K ρ H ds vs) : ∀ p, H p = none → Q (.ref p) (upd H p (.tup vs)) := fun p hp =>
  k ρ (.ref p) _ (Ext.tup hp) (R.tup hp) (by rw [DR]; exact ⟨p, vs, rfl, upd_same, DRs.ext R (Ext.tup hp) _ _ h⟩)
theorem ref_new {p : Addr} (R : Rel T K ρ H st) {H' : Hp} : DR K (ρ ++ [p]) H' (.ref st.length) (.ref p) := by
  rw [DR]
  refine ⟨p, rfl, ?_⟩
  rw [← R.len, List.getElem?_append_right (Nat.le_refl _)]
  simp
theorem Post.lst {ds : List D} {vs : List V} (R : Rel T K ρ H st) (k : Post T K ρ H (st ++ [.lst ds]) (.ref st.length) Q) (h : DRs K ρ H ds vs) : ∀ p, H p = none → Q (.ref p) (upd H p (.lst vs)) := fun p hp =>
  k (ρ ++ [p]) (.ref p) _ (Ext.new' hp) (R.push hp fun H' e x => ⟨vs, e, DRs.ext R x _ _ h⟩) (ref_new R)
theorem Post.dic {kvs : List (Key × D)} {ws : List (Key × V)} (R : Rel T K ρ H st) (k : Post T K ρ H (st ++ [.dic kvs]) (.ref st.length) Q) (h : KR K ρ H kvs ws) : ∀ p, H p = none → Q (.ref p) (upd H p (.dK ws)) := fun p hp =>
  k (ρ ++ [p]) (.ref p) _ (Ext.new' hp) (R.push hp fun H' e x => ⟨ws, e, KR.ext R x _ _ h⟩) (ref_new R)
end

/-! ### the store -/
def new (o : O) : M D := fun st => some (.ref st.length, st ++ [o])
def lstAt (n : Nat) : M (List D) := fun st => match st[n]? with
  | some (.lst ds) => some (ds, st)
  | _ => none
def dicAt (n : Nat) : M (List (Key × D)) := fun st => match kvsOf st[n]? with
  | some kvs => some (kvs, st)
  | none => none
def putAt (n : Nat) (o : O) : M Unit := fun st => some ((), st.set n o)
def guardM (c : Bool) : M Unit := if c then pure () else fail
theorem lstAt_some {n : Nat} {st st' : S} {ds : List D} (h : lstAt n st = some (ds, st')) : st[n]? = some (.lst ds) ∧ st' = st := by
  unfold lstAt at h
  split at h
  · cases h; exact ⟨by assumption, rfl⟩
  · cases h
theorem dicAt_some {n : Nat} {st st' : S} {ds : List (Key × D)} (h : dicAt n st = some (ds, st')) : kvsOf st[n]? = some ds ∧ st' = st := by
  unfold dicAt at h
  cases q : kvsOf st[n]? with
  | none => rw [q] at h; cases h
  | some k => rw [q] at h; cases h; exact ⟨rfl, rfl⟩
theorem guard_some {c : Bool} {st st' : S} {u : Unit} (h : guardM c st = some (u, st')) : c = true ∧ st' = st := by
  unfold guardM at h
  split at h
  · exact ⟨by assumption, (pure_some h).2⟩
  · cases h

/-! ### as the library's data -/
def mapO {α β : Type} (f : α → Option β) : List α → Option (List β)
  | [] => some []
  | x :: xs => match f x with
    | none => none
    | some y => match mapO f xs with
      | none => none
      | some ys => some (y :: ys)
def toPy (st : S) : Nat → D → Option PyData
  | 0, _ => none
  | _ + 1, .non => some .none
  | _ + 1, .bl b => some (.bool b)
  | _ + 1, .int i => some (.int i)
  | _ + 1, .str x => if PyData.strOk x then some (.str x) else none
  | _ + 1, .ty _ => none
  | n + 1, .tup ds => match mapO (toPy st n) ds with
    | some ps => some (.tuple ps)
    | none => none
  | n + 1, .rot ds => match mapO (toPy st n) ds with
    | some ps => some (.tuple ps)
    | none => none
  | n + 1, .rol ds => match mapO (toPy st n) ds with
    | some ps => some (.list ps)
    | none => none
  | n + 1, .ref m => match st[m]? with
    | some (.lst ds) => match mapO (toPy st n) ds with
      | some ps => some (.list ps)
      | none => none
    | _ => none
/-- data that == and repr take -/
structure PyOk (K : PySem.W.Frag) (H : Hp) (n : Nat) (v : V) (p : PyData) : Prop where
  dp : Dp K H v p
  lay : p.canLay0 = true
  deep : p.depth ≤ n
structure PyOks (K : PySem.W.Frag) (H : Hp) (n : Nat) (vs : List V) (ps : List PyData) : Prop where
  dp : DpAll K H vs ps
  lay : PyData.canLayAll0 ps = true
  deep : PyData.depthAll ps ≤ n
theorem mapO_ok {K : PySem.W.Frag} {ρ : List Addr} {H : Hp} {n : Nat} {f : D → Option PyData} (hf : ∀ (d : D) (v : V) (p : PyData), DR K ρ H d v → f d = some p → PyOk K H n v p) :
    ∀ (ds : List D) (vs : List V) (ps : List PyData), DRs K ρ H ds vs → mapO f ds = some ps → PyOks K H n vs ps
  | [], vs, ps, h, e => by
    rw [DRs] at h; subst h
    have e' : some [] = some ps := e
    cases e'
    exact ⟨.nil, rfl, Nat.zero_le _⟩
  | d :: ds, vs, ps, h, e => by
    rw [DRs] at h
    obtain ⟨v, r, rfl, h1, h2⟩ := h
    unfold mapO at e
    split at e
    · cases e
    · rename_i p hp
      split at e
      · cases e
      · rename_i qs hqs
        cases e
        have a := hf d v p h1 hp
        have b := mapO_ok hf ds r qs h2 hqs
        refine ⟨.cons a.dp b.dp, ?_, ?_⟩
        · rw [PyData.canLayAll0, a.lay, b.lay]; rfl
        · rw [PyData.depthAll]
          have := a.deep
          have := b.deep
          omega
theorem toPy_ok {K : PySem.W.Frag} {ρ : List Addr} {H : Hp} {st : S} (R : Rel T K ρ H st) : ∀ (n : Nat) (d : D) (v : V) (p : PyData), DR K ρ H d v → toPy st n d = some p → PyOk K H n v p
  | 0, _, _, _, _, e => by cases e
  | n + 1, .non, v, p, h, e => by rw [DR] at h; subst h; cases e; exact ⟨.non, rfl, Nat.zero_le _⟩
  | n + 1, .bl b, v, p, h, e => by rw [DR] at h; subst h; cases e; exact ⟨.bl b, rfl, Nat.zero_le _⟩
  | n + 1, .int i, v, p, h, e => by rw [DR] at h; subst h; cases e; exact ⟨.int i, rfl, Nat.zero_le _⟩
  | n + 1, .str x, v, p, h, e => by
    rw [DR] at h; subst h
    unfold toPy at e
    split at e
    · cases e; exact ⟨.str x, by rw [PyData.canLay0]; assumption, Nat.zero_le _⟩
    · cases e
  | n + 1, .ty _, v, p, h, e => by cases e
  | n + 1, .tup ds, v, p, h, e => by
    rw [DR] at h
    obtain ⟨a, vs, rfl, hq, hd⟩ := h
    unfold toPy at e
    split at e
    · rename_i ps hps
      cases e
      have q := mapO_ok (fun d v p h1 h2 => toPy_ok R n d v p h1 h2) ds vs ps hd hps
      exact ⟨.tup (SqT.of hq) q.dp, by rw [PyData.canLay0]; exact q.lay, by rw [PyData.depth]; exact Nat.succ_le_succ q.deep⟩
    · cases e
  | n + 1, .rot ds, v, p, h, e => by
    rw [DR] at h
    obtain ⟨a, vs, rfl, hq, hd⟩ := h
    unfold toPy at e
    split at e
    · rename_i ps hps
      cases e
      have q := mapO_ok (fun d v p h1 h2 => toPy_ok R n d v p h1 h2) ds vs ps hd hps
      exact ⟨.tup hq q.dp, by rw [PyData.canLay0]; exact q.lay, by rw [PyData.depth]; exact Nat.succ_le_succ q.deep⟩
    · cases e
  | n + 1, .rol ds, v, p, h, e => by
    rw [DR] at h
    obtain ⟨a, vs, rfl, hq, hd⟩ := h
    unfold toPy at e
    split at e
    · rename_i ps hps
      cases e
      have q := mapO_ok (fun d v p h1 h2 => toPy_ok R n d v p h1 h2) ds vs ps hd hps
      exact ⟨.lst hq.sq q.dp, by rw [PyData.canLay0]; exact q.lay, by rw [PyData.depth]; exact Nat.succ_le_succ q.deep⟩
    · cases e
  | n + 1, .ref m, v, p, h, e => by
    unfold toPy at e
    split at e
    · rename_i ds hm
      split at e
      · rename_i ps hps
        cases e
        obtain ⟨a, vs, rfl, _, hq, hd⟩ := R.lst h hm
        have q := mapO_ok (fun d v p h1 h2 => toPy_ok R n d v p h1 h2) ds vs ps hd hps
        exact ⟨.lst (SqL.of hq) q.dp, by rw [PyData.canLay0]; exact q.lay, by rw [PyData.depth]; exact Nat.succ_le_succ q.deep⟩
      · cases e
    · cases e
theorem PyOk.shaped {K : PySem.W.Frag} {H : Hp} {v : V} {p : PyData} {n : Nat} (h : PyOk K H n v p) (hn : n ≤ 64) : SeqAt.shaped p = true := by
  show (p.canLay0 && decide (p.depth ≤ 64)) = true
  rw [h.lay, decide_eq_true (Nat.le_trans h.deep hn)]; rfl

/-! ### comparing -/
def eqD (a b : D) : M Bool := fun st => match toPy st 64 a, toPy st 64 b with
  | some p, some q => some (PyData.eqv p q, st)
  | _, _ => none
theorem eqD_some {a b : D} {st st' : S} {c : Bool} (h : eqD a b st = some (c, st')) : ∃ p q, toPy st 64 a = some p ∧ toPy st 64 b = some q ∧ c = PyData.eqv p q ∧ st' = st := by
  unfold eqD at h
  split at h
  · rename_i p q hp hq
    cases h
    exact ⟨p, q, hp, hq, rfl, rfl⟩
  · cases h
def blM (m : M Bool) : M D := do
  let b ← m
  pure (.bl b)
theorem blM_some {m : M Bool} {st st' : S} {d : D} (h : blM m st = some (d, st')) : ∃ b, m st = some (b, st') ∧ d = .bl b := by
  obtain ⟨b, s1, h1, h2⟩ := bind_some h
  obtain ⟨rfl, rfl⟩ := pure_some h2
  exact ⟨b, h1, rfl⟩
section
variable {X : Cx}
theorem op_eqM (hu : X.A.units + 64 < cLine) : OpR X (compareOp .Eq) (r2M T X.K fun a b => blM (eqD a b)) := by
  intro pins s σ H x y v u Q I rx ry ⟨ρ, st, a, b, d, st', R, ha, hb, hg, k⟩
  obtain ⟨c, hc, rfl⟩ := blM_some hg
  obtain ⟨p, q, hp, hq, rfl, rfl⟩ := eqD_some hc
  have P := toPy_ok R 64 a x p ha hp
  have P' := toPy_ok R 64 b y q hb hq
  exact op_eqD hu pins s σ H x y v u Q I rx ry ⟨p, q, P.dp, P'.dp, P.shaped (Nat.le_refl _), P'.shaped (Nat.le_refl _), k.now R (by rw [DR])⟩
def notM (m : M Bool) : M Bool := do
  let b ← m
  pure (!b)
theorem notM_some {m : M Bool} {st st' : S} {d : Bool} (h : notM m st = some (d, st')) : ∃ b, m st = some (b, st') ∧ d = !b := by
  obtain ⟨b, s1, h1, h2⟩ := bind_some h
  obtain ⟨rfl, rfl⟩ := pure_some h2
  exact ⟨b, h1, rfl⟩
theorem op_neM (hu : X.A.units + 64 < cLine) : OpR X (compareOp .NotEq) (r2M T X.K fun a b => blM (notM (eqD a b))) := by
  intro pins s σ H x y v u Q I rx ry ⟨ρ, st, a, b, d, st', R, ha, hb, hg, k⟩
  obtain ⟨c, hc, rfl⟩ := blM_some hg
  obtain ⟨c, hc2, rfl⟩ := notM_some hc
  obtain ⟨p, q, hp, hq, rfl, rfl⟩ := eqD_some hc2
  have P := toPy_ok R 64 a x p ha hp
  have P' := toPy_ok R 64 b y q hb hq
  exact op_neD hu pins s σ H x y v u Q I rx ry ⟨p, q, P.dp, P'.dp, P.shaped (Nat.le_refl _), P'.shaped (Nat.le_refl _), k.now R (by rw [DR])⟩

/-! ### order of whole numbers -/
def ltD : D → D → M Bool
  | .int i, .int j => pure (decide (i < j))
  | _, _ => fail
def leD : D → D → M Bool
  | .int i, .int j => pure (decide (i ≤ j))
  | _, _ => fail
theorem ltD_some {a b : D} {st st' : S} {c : Bool} (h : ltD a b st = some (c, st')) : ∃ i j, a = .int i ∧ b = .int j ∧ c = decide (i < j) ∧ st' = st := by
  unfold ltD at h
  split at h
  · obtain ⟨rfl, rfl⟩ := pure_some h; exact ⟨_, _, rfl, rfl, rfl, rfl⟩
  · cases h
theorem leD_some {a b : D} {st st' : S} {c : Bool} (h : leD a b st = some (c, st')) : ∃ i j, a = .int i ∧ b = .int j ∧ c = decide (i ≤ j) ∧ st' = st := by
  unfold leD at h
  split at h
  · obtain ⟨rfl, rfl⟩ := pure_some h; exact ⟨_, _, rfl, rfl, rfl, rfl⟩
  · cases h
theorem DR.int {K : PySem.W.Frag} {ρ : List Addr} {H : Hp} {i : Int} {v : V} (h : DR K ρ H (.int i) v) : v = .int i := by rw [DR] at h; exact h
theorem DR.str {K : PySem.W.Frag} {ρ : List Addr} {H : Hp} {i : Str} {v : V} (h : DR K ρ H (.str i) v) : v = .str i := by rw [DR] at h; exact h
theorem DR.bl {K : PySem.W.Frag} {ρ : List Addr} {H : Hp} {i : Bool} {v : V} (h : DR K ρ H (.bl i) v) : v = .bl i := by rw [DR] at h; exact h
theorem DR.non {K : PySem.W.Frag} {ρ : List Addr} {H : Hp} {v : V} (h : DR K ρ H .non v) : v = .non := by rw [DR] at h; exact h
theorem DR.tupS {K : PySem.W.Frag} {ρ : List Addr} {H : Hp} {ds : List D} {v : V} (h : DR K ρ H (.tup ds) v) : ∃ a vs, v = .ref a ∧ H a = some (.tup vs) ∧ DRs K ρ H ds vs := by rw [DR] at h; exact h
theorem DR.rot {K : PySem.W.Frag} {ρ : List Addr} {H : Hp} {ds : List D} {v : V} (h : DR K ρ H (.rot ds) v) : ∃ a vs, v = .ref a ∧ SqT K H a vs ∧ DRs K ρ H ds vs := by rw [DR] at h; exact h
theorem DR.tup {K : PySem.W.Frag} {ρ : List Addr} {H : Hp} {ds : List D} {v : V} (h : DR K ρ H (.tup ds) v) : ∃ a vs, v = .ref a ∧ SqT K H a vs ∧ DRs K ρ H ds vs := by
  obtain ⟨a, vs, h1, h2, h3⟩ := h.tupS
  exact ⟨a, vs, h1, SqT.of h2, h3⟩
theorem DR.rol {K : PySem.W.Frag} {ρ : List Addr} {H : Hp} {ds : List D} {v : V} (h : DR K ρ H (.rol ds) v) : ∃ a vs, v = .ref a ∧ RoL K H a vs ∧ DRs K ρ H ds vs := by rw [DR] at h; exact h
theorem op_ltM : OpR X (compareOp .Lt) (r2M T X.K fun a b => blM (ltD a b)) := by
  intro pins s σ H x y v u Q I rx ry ⟨ρ, st, a, b, d, st', R, ha, hb, hg, k⟩
  obtain ⟨c, hc, rfl⟩ := blM_some hg
  obtain ⟨i, j, rfl, rfl, rfl, rfl⟩ := ltD_some hc
  exact op_lt pins s σ H x y v u Q I rx ry ⟨i, j, ha.int, hb.int, k.now R (by rw [DR])⟩
theorem op_gtM : OpR X (compareOp .Gt) (r2M T X.K fun a b => blM (ltD b a)) := by
  intro pins s σ H x y v u Q I rx ry ⟨ρ, st, a, b, d, st', R, ha, hb, hg, k⟩
  obtain ⟨c, hc, rfl⟩ := blM_some hg
  obtain ⟨i, j, rfl, rfl, rfl, rfl⟩ := ltD_some hc
  exact op_gt pins s σ H x y v u Q I rx ry ⟨j, i, ha.int, hb.int, k.now R (by rw [DR])⟩
theorem op_leM : OpR X (compareOp .LtE) (r2M T X.K fun a b => blM (leD a b)) := by
  intro pins s σ H x y v u Q I rx ry ⟨ρ, st, a, b, d, st', R, ha, hb, hg, k⟩
  obtain ⟨c, hc, rfl⟩ := blM_some hg
  obtain ⟨i, j, rfl, rfl, rfl, rfl⟩ := leD_some hc
  exact op_le pins s σ H x y v u Q I rx ry ⟨i, j, ha.int, hb.int, k.now R (by rw [DR])⟩
theorem op_geM : OpR X (compareOp .GtE) (r2M T X.K fun a b => blM (leD b a)) := by
  intro pins s σ H x y v u Q I rx ry ⟨ρ, st, a, b, d, st', R, ha, hb, hg, k⟩
  obtain ⟨c, hc, rfl⟩ := blM_some hg
  obtain ⟨i, j, rfl, rfl, rfl, rfl⟩ := leD_some hc
  exact op_ge pins s σ H x y v u Q I rx ry ⟨j, i, ha.int, hb.int, k.now R (by rw [DR])⟩

/-! ### is -/
def isD : D → D → M Bool
  | .non, .non => pure true
  | .bl _, .non => pure false
  | .int _, .non => pure false
  | .str _, .non => pure false
  | .tup _, .non => pure false
  | .rot _, .non => pure false
  | .rol _, .non => pure false
  | .ref _, .non => pure false
  | .bl a, .bl b => pure (decide (a = b))
  | _, _ => fail
theorem isD_ok {K : PySem.W.Frag} {ρ : List Addr} {H : Hp} {a b : D} {x y : V} {st st' : S} {c : Bool} (ha : DR K ρ H a x) (hb : DR K ρ H b y) (h : isD a b st = some (c, st')) : st' = st ∧
    ((y = .non ∧ c = decide (x = .non)) ∨ ∃ i j, x = .bl i ∧ y = .bl j ∧ c = decide (i = j)) := by
  cases b with
  | non =>
    have hy := hb.non
    cases a with
    | non => obtain ⟨rfl, rfl⟩ := pure_some h; exact ⟨rfl, .inl ⟨hy, by rw [ha.non]; rfl⟩⟩
    | bl i => obtain ⟨rfl, rfl⟩ := pure_some h; exact ⟨rfl, .inl ⟨hy, by rw [ha.bl]; rfl⟩⟩
    | int i => obtain ⟨rfl, rfl⟩ := pure_some h; exact ⟨rfl, .inl ⟨hy, by rw [ha.int]; rfl⟩⟩
    | str i => obtain ⟨rfl, rfl⟩ := pure_some h; exact ⟨rfl, .inl ⟨hy, by rw [ha.str]; rfl⟩⟩
    | tup i => obtain ⟨rfl, rfl⟩ := pure_some h; obtain ⟨_, _, e, _⟩ := ha.tup; exact ⟨rfl, .inl ⟨hy, by rw [e]; rfl⟩⟩
    | rot i => obtain ⟨rfl, rfl⟩ := pure_some h; obtain ⟨_, _, e, _⟩ := ha.rot; exact ⟨rfl, .inl ⟨hy, by rw [e]; rfl⟩⟩
    | rol i => obtain ⟨rfl, rfl⟩ := pure_some h; obtain ⟨_, _, e, _⟩ := ha.rol; exact ⟨rfl, .inl ⟨hy, by rw [e]; rfl⟩⟩
    | ref i => obtain ⟨rfl, rfl⟩ := pure_some h; rw [DR] at ha; obtain ⟨_, e, _⟩ := ha; exact ⟨rfl, .inl ⟨hy, by rw [e]; rfl⟩⟩
    | ty i => cases h
  | bl j =>
    cases a with
    | bl i => obtain ⟨rfl, rfl⟩ := pure_some h; exact ⟨rfl, .inr ⟨i, j, ha.bl, hb.bl, rfl⟩⟩
    | _ => cases h
  | _ => cases a <;> cases h
theorem op_isM : OpR X (compareOp .Is) (r2M T X.K fun a b => blM (isD a b)) := by
  intro pins s σ H x y v u Q I rx ry ⟨ρ, st, a, b, d, st', R, ha, hb, hg, k⟩
  obtain ⟨c, hc, rfl⟩ := blM_some hg
  obtain ⟨rfl, h | ⟨i, j, h1, h2, h3⟩⟩ := isD_ok ha hb hc
  · exact op_isN pins s σ H x y v u Q I rx ry ⟨h.1, by rw [← h.2]; exact k.now R (by rw [DR])⟩
  · exact op_is_bl pins s σ H x y v u Q I rx ry ⟨i, j, h1, h2, by rw [← h3]; exact k.now R (by rw [DR])⟩
theorem op_isnotM : OpR X (compareOp .IsNot) (r2M T X.K fun a b => blM (notM (isD a b))) := by
  intro pins s σ H x y v u Q I rx ry ⟨ρ, st, a, b, d, st', R, ha, hb, hg, k⟩
  obtain ⟨c, hc, rfl⟩ := blM_some hg
  obtain ⟨c, hc2, rfl⟩ := notM_some hc
  obtain ⟨rfl, h | ⟨i, j, h1, h2, h3⟩⟩ := isD_ok ha hb hc2
  · exact op_notN pins s σ H x y v u Q I rx ry ⟨h.1, by rw [← h.2]; exact k.now R (by rw [DR])⟩
  · exact op_isnot_bl pins s σ H x y v u Q I rx ry ⟨i, j, h1, h2, by rw [← h3]; exact k.now R (by rw [DR])⟩
end
end Mx


/-! Mx3: arithmetic, membership, subscripts, slices. -/
namespace Mx
open PySem PySem.Spec L2
variable {T : List (Addr × Str)}

/-! ### dicts as lists of pairs -/
section
variable {κ : Type} [DecidableEq κ] {β : Type}
def look : List (κ × β) → κ → Option β
  | [], _ => none
  | p :: r, k => if p.1 = k then some p.2 else look r k
def repl : List (κ × β) → κ → β → List (κ × β)
  | [], _, _ => []
  | p :: r, k, v => (if p.1 = k then (p.1, v) else p) :: repl r k v
def put (kvs : List (κ × β)) (k : κ) (v : β) : List (κ × β) := if (look kvs k).isSome then repl kvs k v else kvs ++ [(k, v)]
def merge (kvs more : List (κ × β)) : List (κ × β) := more.foldl (fun acc kv => put acc kv.1 kv.2) kvs
end
section
variable {κ : Type} [DecidableEq κ] {K : PySem.W.Frag} {ρ : List Addr} {H : Hp}
theorem KR.nil : KR K ρ H ([] : List (κ × D)) [] := rfl
theorem KR.cons {p : κ × D} {q : κ × V} {ps : List (κ × D)} {qs : List (κ × V)} (h1 : p.1 = q.1) (h2 : DR K ρ H p.2 q.2) (h3 : KR K ρ H ps qs) : KR K ρ H (p :: ps) (q :: qs) := ⟨q, qs, rfl, h1, h2, h3⟩
theorem KR.length : ∀ {ps : List (κ × D)} {ws : List (κ × V)}, KR K ρ H ps ws → ws.length = ps.length
  | [], _, h => by
    have h' : _ = [] := h
    rw [h']; rfl
  | p :: ps, _, ⟨q, r, e, _, _, h⟩ => by subst e; simp [KR.length h]
theorem KR.look : ∀ {ps : List (κ × D)} {ws : List (κ × V)} (k : κ), KR K ρ H ps ws → (∀ d, Mx.look ps k = some d → ∃ v, valV ws k = some v ∧ DR K ρ H d v) ∧ (Mx.look ps k = none → valV ws k = none)
  | [], _, k, h => by
    have h' : _ = [] := h
    subst h'
    exact ⟨fun d e => (by cases e), fun _ => rfl⟩
  | p :: ps, _, k, ⟨q, r, e, h1, h2, h3⟩ => by
    subst e
    have ih := KR.look k h3
    unfold Mx.look
    by_cases hk : p.1 = k
    · rw [if_pos hk, valV_pos (h1 ▸ hk)]
      exact ⟨fun d e => by cases e; exact ⟨q.2, rfl, h2⟩, fun e => nomatch e⟩
    · rw [if_neg hk, valV_neg (h1 ▸ hk)]
      exact ih
theorem KR.repl : ∀ {ps : List (κ × D)} {ws : List (κ × V)} (k : κ) {d : D} {v : V}, KR K ρ H ps ws → DR K ρ H d v → KR K ρ H (Mx.repl ps k d) (ws.map fun kv => if kv.1 = k then (kv.1, v) else kv)
  | [], _, k, _, _, h, _ => by
    have h' : _ = [] := h
    subst h'
    rfl
  | p :: ps, _, k, d, v, ⟨q, r, e, h1, h2, h3⟩, hd => by
    subst e
    have ih := KR.repl k h3 hd
    unfold Mx.repl
    rw [List.map_cons]
    refine KR.cons ?_ ?_ ih
    · by_cases hk : p.1 = k
      · rw [if_pos hk, if_pos (h1 ▸ hk)]; exact h1
      · rw [if_neg hk, if_neg (h1 ▸ hk)]; exact h1
    · by_cases hk : p.1 = k
      · rw [if_pos hk, if_pos (h1 ▸ hk)]; exact hd
      · rw [if_neg hk, if_neg (h1 ▸ hk)]; exact h2
theorem KR.snoc : ∀ {ps : List (κ × D)} {ws : List (κ × V)} {k : κ} {d : D} {v : V}, KR K ρ H ps ws → DR K ρ H d v → KR K ρ H (ps ++ [(k, d)]) (ws ++ [(k, v)])
  | [], _, _, _, _, h, hd => by
    have h' : _ = [] := h
    subst h'
    exact KR.cons rfl hd rfl
  | p :: ps, _, _, _, _, ⟨q, r, e, h1, h2, h3⟩, hd => by
    subst e
    exact KR.cons h1 h2 (KR.snoc h3 hd)
theorem KR.put {ps : List (κ × D)} {ws : List (κ × V)} (k : κ) {d : D} {v : V} (h : KR K ρ H ps ws) (hd : DR K ρ H d v) : KR K ρ H (Mx.put ps k d) (putK ws k v) := by
  unfold Mx.put putK
  rw [valV_any]
  obtain ⟨h1, h2⟩ := h.look k
  cases e : Mx.look ps k with
  | none =>
    rw [h2 e]
    exact h.snoc hd
  | some x =>
    obtain ⟨y, e1, _⟩ := h1 x e
    rw [e1]
    exact h.repl k hd
end

/-! ### arithmetic -/
def mulOk (i j : Int) : Bool := (decide (-(2 ^ 64) < i) && decide (i < 2 ^ 64)) || (decide (-(2 ^ 64) < j) && decide (j < 2 ^ 64))
theorem mulOk_of {i j : Int} (h : mulOk i j = true) : CMul i j := by
  unfold mulOk at h
  simp only [Bool.or_eq_true, Bool.and_eq_true, decide_eq_true_eq] at h
  exact h
def addD : D → D → M D
  | .int i, .int j => pure (.int (i + j))
  | .str x, .str y => do
    guardM (decide (x.length + y.length ≤ sizeLine))
    pure (.str (x ++ y))
  | .tup xs, .tup ys => do
    guardM (decide (xs.length + ys.length ≤ sizeLine))
    pure (.tup (xs ++ ys))
  | .ref n, .ref m => do
    let xs ← lstAt n
    let ys ← lstAt m
    guardM (decide (xs.length + ys.length ≤ sizeLine))
    new (.lst (xs ++ ys))
  | _, _ => fail
def subD : D → D → M D
  | .int i, .int j => pure (.int (i - j))
  | _, _ => fail
def mulD : D → D → M D
  | .int i, .int j => do
    guardM (mulOk i j)
    pure (.int (i * j))
  | .tup xs, .int k => do
    guardM (!xs.isEmpty && decide (2 ≤ k) && decide (k ≤ 1000) && decide (xs.length ≤ 1000))
    pure (.tup (List.replicate k.toNat xs).flatten)
  | .ref n, .int k => do
    let xs ← lstAt n
    guardM (decide (-(2 ^ 63) ≤ k) && decide (k < 2 ^ 63) && decide (xs.length * k.toNat ≤ sizeLine))
    new (.lst (List.replicate k.toNat xs).flatten)
  | _, _ => fail
def fdivD : D → D → M D
  | .int i, .int j => do
    guardM (decide (j ≠ 0) && decide (j.natAbs < 1073741824))
    pure (.int (i.fdiv j))
  | _, _ => fail
def modD : D → D → M D
  | .int i, .int j => do
    guardM (decide (j ≠ 0))
    pure (.int (i.fmod j))
  | _, _ => fail
def powD : D → D → M D
  | .int i, .int j => do
    guardM (decide (0 ≤ j) && decide (j ≤ 1000000) && decide (i.natAbs < 2 ^ 64))
    pure (.int (i ^ j.toNat))
  | _, _ => fail
def binD : Operator → D → D → M D
  | .Add => addD
  | .Sub => subD
  | .Mult => mulD
  | .FloorDiv => fdivD
  | .Mod => modD
  | .Pow => powD
  | _ => fun _ _ => fail
theorem guarded {α : Type} {c : Bool} {m : M α} {st st' : S} {a : α} (h : (guardM c >>= fun _ => m) st = some (a, st')) : c = true ∧ m st = some (a, st') := by
  obtain ⟨u, s1, h1, h2⟩ := bind_some h
  obtain ⟨h3, rfl⟩ := guard_some h1
  exact ⟨h3, h2⟩
theorem DRs.flatRep {K : PySem.W.Frag} {ρ : List Addr} {H : Hp} {ds : List D} {vs : List V} (h : DRs K ρ H ds vs) : ∀ k : Nat, DRs K ρ H (List.replicate k ds).flatten (List.replicate k vs).flatten
  | 0 => DRs.nil
  | k + 1 => by
    rw [List.replicate_succ, List.replicate_succ, List.flatten_cons, List.flatten_cons]
    exact h.append (DRs.flatRep h k)
section
variable {X : Cx}
theorem add_tup {pins : List (Addr × Obj)} {s : Shared} {σ : St} {H : Hp} {x y : V} {v u : Value} {Q : VK} {ρ : List Addr} {st : S} {xs ys : List D} {f : Value → Value → Sem Value} (hf : OpR X f (rCatA X.K)) (I : L2.Inv X pins σ H s) (rx : RelV x v) (ry : RelV y u) (R : Rel T X.K ρ H st)
    (ha : DR X.K ρ H (.tup xs) x) (hb : DR X.K ρ H (.tup ys) y) (hz : xs.length + ys.length ≤ sizeLine) (k : Post T X.K ρ H st (.tup (xs ++ ys)) Q) : wpAny (model X.prog X.w) X.A (f v u) (EP X pins σ Q) X.xe s := by
  obtain ⟨a, vs, rfl, h1, h2⟩ := ha.tup
  obtain ⟨b, ws, rfl, h3, h4⟩ := hb.tup
  have hl := h2.length
  have hl2 := h4.length
  refine hf pins s σ H _ _ v u Q I rx ry ⟨a, b, vs, ws, rfl, rfl, h1, h3, by omega, fun e => ?_, fun _ e => ?_, fun _ _ => k.tup R (h2.append h4)⟩
  · subst e
    have e0 : xs = [] := by cases xs with
      | nil => rfl
      | cons _ _ => simp at hl
    subst e0
    exact k.now R hb
  · subst e
    have e0 : ys = [] := by cases ys with
      | nil => rfl
      | cons _ _ => simp at hl2
    subst e0
    rw [List.append_nil] at k
    exact k.now R ha
theorem op_addM : OpR X (binaryOp .Add) (r2M T X.K addD) := by
  intro pins s σ H x y v u Q I rx ry ⟨ρ, st, a, b, d, st', R, ha, hb, hg, k⟩
  unfold addD at hg
  split at hg
  · obtain ⟨rfl, rfl⟩ := pure_some hg
    exact op_add pins s σ H x y v u Q I rx ry ⟨_, _, ha.int, hb.int, k.now R (by rw [DR])⟩
  · obtain ⟨hz, hg⟩ := guarded hg
    obtain ⟨rfl, rfl⟩ := pure_some hg
    exact op_add_str pins s σ H x y v u Q I rx ry ⟨_, _, ha.str, hb.str, of_decide_eq_true hz, k.now R (by rw [DR])⟩
  · obtain ⟨hz, hg⟩ := guarded hg
    obtain ⟨rfl, rfl⟩ := pure_some hg
    exact add_tup op_catA I rx ry R ha hb (of_decide_eq_true hz) k
  · obtain ⟨xs, s1, h1, hg1⟩ := bind_some hg
    obtain ⟨e1, rfl⟩ := lstAt_some h1
    obtain ⟨ys, s2, h2, hg2⟩ := bind_some hg1
    obtain ⟨e2, rfl⟩ := lstAt_some h2
    obtain ⟨hz, hg3⟩ := guarded hg2
    obtain ⟨a, vs, rfl, _, q1, q2⟩ := R.lst ha e1
    obtain ⟨b, ws, rfl, _, q3, q4⟩ := R.lst hb e2
    cases hg3
    have hz' := of_decide_eq_true hz
    exact op_cat pins s σ H _ _ v u Q I rx ry ⟨a, b, vs, ws, rfl, rfl, q1, q3, by rw [q2.length, q4.length]; exact hz', k.lst R (q2.append q4)⟩
  · cases hg
theorem op_subM : OpR X (binaryOp .Sub) (r2M T X.K subD) := by
  intro pins s σ H x y v u Q I rx ry ⟨ρ, st, a, b, d, st', R, ha, hb, hg, k⟩
  unfold subD at hg
  split at hg
  · obtain ⟨rfl, rfl⟩ := pure_some hg
    exact op_sub pins s σ H x y v u Q I rx ry ⟨_, _, ha.int, hb.int, k.now R (by rw [DR])⟩
  · cases hg
theorem op_mulM : OpR X (binaryOp .Mult) (r2M T X.K mulD) := by
  intro pins s σ H x y v u Q I rx ry ⟨ρ, st, a, b, d, st', R, ha, hb, hg, k⟩
  unfold mulD at hg
  split at hg
  · obtain ⟨hz, hg⟩ := guarded hg
    obtain ⟨rfl, rfl⟩ := pure_some hg
    exact op_mul pins s σ H x y v u Q I rx ry ⟨_, _, ha.int, hb.int, mulOk_of hz, k.now R (by rw [DR])⟩
  · rename_i xs j
    obtain ⟨hz, hg⟩ := guarded hg
    obtain ⟨rfl, rfl⟩ := pure_some hg
    simp only [Bool.and_eq_true, decide_eq_true_eq, Bool.not_eq_true'] at hz
    obtain ⟨a, vs, rfl, h1, h2⟩ := ha.tup
    have hl := h2.length
    refine op_repT pins s σ H _ _ v u Q I rx ry ⟨a, j, vs, rfl, hb.int, h1, fun e => ?_, hz.1.1.2, hz.1.2, by rw [hl]; exact hz.2, k.tup R (h2.flatRep _)⟩
    subst e
    have e0 : xs = [] := by cases xs with
      | nil => rfl
      | cons _ _ => simp at hl
    subst e0
    simp at hz
  · rename_i n j
    obtain ⟨xs, s1, h1, hg1⟩ := bind_some hg
    obtain ⟨e1, rfl⟩ := lstAt_some h1
    obtain ⟨hz, hg2⟩ := guarded hg1
    simp only [Bool.and_eq_true, decide_eq_true_eq] at hz
    obtain ⟨a, vs, rfl, _, q1, q2⟩ := R.lst ha e1
    cases hg2
    exact op_rep pins s σ H _ _ v u Q I rx ry ⟨a, j, vs, rfl, hb.int, q1, hz.1.1, hz.1.2, by rw [q2.length]; exact hz.2, k.lst R (q2.flatRep _)⟩
  · cases hg
theorem op_fdivM : OpR X (binaryOp .FloorDiv) (r2M T X.K fdivD) := by
  intro pins s σ H x y v u Q I rx ry ⟨ρ, st, a, b, d, st', R, ha, hb, hg, k⟩
  unfold fdivD at hg
  split at hg
  · obtain ⟨hz, hg⟩ := guarded hg
    obtain ⟨rfl, rfl⟩ := pure_some hg
    simp only [Bool.and_eq_true, decide_eq_true_eq] at hz
    exact op_fdivN pins s σ H x y v u Q I rx ry ⟨_, _, ha.int, hb.int, hz, k.now R (by rw [DR])⟩
  · cases hg
theorem op_modM : OpR X (binaryOp .Mod) (r2M T X.K modD) := by
  intro pins s σ H x y v u Q I rx ry ⟨ρ, st, a, b, d, st', R, ha, hb, hg, k⟩
  unfold modD at hg
  split at hg
  · obtain ⟨hz, hg⟩ := guarded hg
    obtain ⟨rfl, rfl⟩ := pure_some hg
    exact op_modN pins s σ H x y v u Q I rx ry ⟨_, _, ha.int, hb.int, of_decide_eq_true hz, k.now R (by rw [DR])⟩
  · cases hg
theorem op_powM : OpR X (binaryOp .Pow) (r2M T X.K powD) := by
  intro pins s σ H x y v u Q I rx ry ⟨ρ, st, a, b, d, st', R, ha, hb, hg, k⟩
  unfold powD at hg
  split at hg
  · obtain ⟨hz, hg⟩ := guarded hg
    obtain ⟨rfl, rfl⟩ := pure_some hg
    simp only [Bool.and_eq_true, decide_eq_true_eq] at hz
    exact op_pow pins s σ H x y v u Q I rx ry ⟨_, _, ha.int, hb.int, ⟨hz.1.1, hz.1.2, hz.2⟩, k.now R (by rw [DR])⟩
  · cases hg
theorem op_binM (o : Operator) : OpR X (binaryOp o) (r2M T X.K (binD o)) := by
  cases o with
  | Add => exact op_addM
  | Sub => exact op_subM
  | Mult => exact op_mulM
  | FloorDiv => exact op_fdivM
  | Mod => exact op_modM
  | Pow => exact op_powM
  | _ => intro pins s σ H x y v u Q I rx ry ⟨ρ, st, a, b, d, st', R, ha, hb, hg, k⟩; cases hg
def negD : D → M D
  | .int i => pure (.int (-i))
  | _ => fail
def r1M (T : List (Addr × Str)) (K : PySem.W.Frag) (g : D → M D) : V → Hp → VK → Prop := fun x H Q => ∃ (ρ : List Addr) (st : S) (a d : D) (st' : S), Rel T K ρ H st ∧ DR K ρ H a x ∧ g a st = some (d, st') ∧ Post T K ρ H st' d Q
theorem un_negM : UnR X (unaryOp .USub) (r1M T X.K negD) := by
  intro pins s σ H x v Q I rx ⟨ρ, st, a, d, st', R, ha, hg, k⟩
  unfold negD at hg
  split at hg
  · obtain ⟨rfl, rfl⟩ := pure_some hg
    exact un_neg pins s σ H x v Q I rx ⟨_, ha.int, k.now R (by rw [DR])⟩
  · cases hg
end
end Mx


/-! Mx4: membership, subscripts, slices, stores. -/
namespace Mx
open PySem PySem.Spec L2
variable {T : List (Addr × Str)}

/-! ### x in y -/
def flatD : D → Bool
  | .non => true
  | .bl _ => true
  | .int _ => true
  | .str _ => true
  | _ => false
def eq1 : D → D → Bool
  | .non, .non => true
  | .bl a, .bl b => a == b
  | .bl a, .int b => (if a then 1 else 0) == b
  | .int a, .bl b => a == (if b then 1 else 0)
  | .int a, .int b => a == b
  | .str a, .str b => a == b
  | _, _ => false
def keyD : D → Option Key
  | .int i => some (.inl i)
  | .str x => some (.inr x)
  | _ => none
def inFlat (x : D) (ys : List D) : M Bool := do
  guardM (flatD x && ys.all flatD)
  pure (ys.any fun z => eq1 z x)
def inDeep (x : D) (ys : List D) : M Bool := fun st => match toPy st 64 x, mapO (toPy st 63) ys with
  | some p, some qs => some (qs.any fun q => PyData.eqv q p, st)
  | _, _ => none
def mapKey : List D → Option (List Key)
  | [] => some []
  | d :: r => match keyD d, mapKey r with
    | some k, some ks => some (k :: ks)
    | _, _ => none
/-- a tuple of ints and texts -/
def keysD : D → Option (List Key)
  | .tup ds => mapKey ds
  | _ => none
def inDic (x : D) (kvs : List (Key × D)) : M Bool := fun st => match keyD x with
  | some k => some ((look kvs k).isSome, st)
  | none => none
def inDit (x : D) (kvs : List (List Key × D)) : M Bool := fun st => match keysD x with
  | some k => some ((look kvs k).isSome, st)
  | none => none
def inRef (x : D) (n : Nat) : M Bool := fun st => match st[n]? with
  | some (.lst ys) => if flatD x && ys.all flatD then inFlat x ys st else inDeep x ys st
  | some (.dic kvs) => inDic x kvs st
  | some (.dif kvs) => inDic x kvs st
  | some (.dit kvs) => inDit x kvs st
  | none => none
theorem mapKey_of {K : PySem.W.Frag} {ρ : List Addr} {H : Hp} : ∀ {ds : List D} {vs : List V} {ks : List Key}, DRs K ρ H ds vs → mapKey ds = some ks → vs = ks.map kV
  | [], _, _, h, e => by rw [DRs] at h; subst h; cases e; rfl
  | d :: ds, _, ks, h, e => by
    rw [DRs] at h
    obtain ⟨v, r, rfl, h1, h2⟩ := h
    unfold mapKey at e
    cases q : keyD d with
    | none => rw [q] at e; cases e
    | some k =>
      cases q2 : mapKey ds with
      | none => rw [q, q2] at e; cases e
      | some rs =>
        rw [q, q2] at e
        cases e
        rw [List.map_cons, ← mapKey_of h2 q2]
        cases d with
        | int i => cases q; rw [h1.int]; rfl
        | str i => cases q; rw [h1.str]; rfl
        | _ => cases q
theorem keysD_of {K : PySem.W.Frag} {ρ : List Addr} {H : Hp} {d : D} {v : V} {ks : List Key} (h : DR K ρ H d v) (e : keysD d = some ks) : ∃ b, v = .ref b ∧ H b = some (.tup (ks.map kV)) := by
  cases d with
  | tup ds =>
    obtain ⟨b, vs, e1, e2, e3⟩ := h.tupS
    rw [mapKey_of e3 e] at e2
    exact ⟨b, e1, e2⟩
  | _ => cases e
def oneSign (w : Str) : Option Nat := match w.cps.toList with
  | [c] => some c
  | _ => none
theorem oneSign_some {w : Str} {c : Nat} (h : oneSign w = some c) : w = ⟨#[c]⟩ := by
  unfold oneSign at h
  split at h
  · rename_i c' e
    cases h
    obtain ⟨wc⟩ := w
    obtain ⟨wl⟩ := wc
    have e' : wl = [c] := e
    rw [e']
  · cases h
def inStr : D → Str → M Bool
  | .str w, z => fun st => match oneSign w with
    | some c => some (decide (c ∈ z.cps.toList), st)
    | none => none
  | _, _ => fail
def inD (x y : D) : M Bool := match y with
  | .tup ys => inFlat x ys
  | .rot ys => inFlat x ys
  | .rol ys => inFlat x ys
  | .ref n => inRef x n
  | .str z => inStr x z
  | _ => fail
theorem flat_of {K : PySem.W.Frag} {ρ : List Addr} {H : Hp} {d : D} {v : V} (h : DR K ρ H d v) (f : flatD d = true) : flatV v = true := by
  cases d with
  | non => rw [h.non]; rfl
  | bl b => rw [h.bl]; rfl
  | int b => rw [h.int]; rfl
  | str b => rw [h.str]; rfl
  | _ => cases f
theorem eq1_of {K : PySem.W.Frag} {ρ : List Addr} {H : Hp} {d e : D} {v w : V} (h : DR K ρ H d v) (h' : DR K ρ H e w) (f : flatD d = true) (g : flatD e = true) : eqV v w = eq1 d e := by
  cases d with
  | non => rw [h.non]; cases e with
    | non => rw [h'.non]; rfl
    | bl b => rw [h'.bl]; rfl
    | int b => rw [h'.int]; rfl
    | str b => rw [h'.str]; rfl
    | _ => cases g
  | bl b => rw [h.bl]; cases e with
    | non => rw [h'.non]; rfl
    | bl b => rw [h'.bl]; rfl
    | int b => rw [h'.int]; rfl
    | str b => rw [h'.str]; rfl
    | _ => cases g
  | int b => rw [h.int]; cases e with
    | non => rw [h'.non]; rfl
    | bl b => rw [h'.bl]; rfl
    | int b => rw [h'.int]; rfl
    | str b => rw [h'.str]; rfl
    | _ => cases g
  | str b => rw [h.str]; cases e with
    | non => rw [h'.non]; rfl
    | bl b => rw [h'.bl]; rfl
    | int b => rw [h'.int]; rfl
    | str b => rw [h'.str]; rfl
    | _ => cases g
  | _ => cases f
theorem flats_of {K : PySem.W.Frag} {ρ : List Addr} {H : Hp} : ∀ {ds : List D} {vs : List V}, DRs K ρ H ds vs → ds.all flatD = true → vs.all flatV = true
  | [], _, h, _ => by rw [DRs] at h; subst h; rfl
  | d :: ds, _, h, f => by
    rw [DRs] at h
    obtain ⟨v, r, rfl, h1, h2⟩ := h
    rw [List.all_cons, Bool.and_eq_true] at f ⊢
    exact ⟨flat_of h1 f.1, flats_of h2 f.2⟩
theorem any_of {K : PySem.W.Frag} {ρ : List Addr} {H : Hp} {x : D} {w : V} (hx : DR K ρ H x w) (fx : flatD x = true) : ∀ {ds : List D} {vs : List V}, DRs K ρ H ds vs → ds.all flatD = true → inV w vs = ds.any fun z => eq1 z x
  | [], _, h, _ => by rw [DRs] at h; subst h; rfl
  | d :: ds, _, h, f => by
    rw [DRs] at h
    obtain ⟨v, r, rfl, h1, h2⟩ := h
    rw [List.all_cons, Bool.and_eq_true] at f
    have ih := any_of hx fx h2 f.2
    unfold inV at ih ⊢
    rw [List.any_cons, List.any_cons, ih, eq1_of h1 hx f.1 fx]
theorem keyD_of {K : PySem.W.Frag} {ρ : List Addr} {H : Hp} {d : D} {v : V} {k : Key} (h : DR K ρ H d v) (e : keyD d = some k) : v = kV k := by
  cases d with
  | int i => cases e; exact h.int
  | str i => cases e; exact h.str
  | _ => cases e
theorem KR.some_look {κ : Type} [DecidableEq κ] {K : PySem.W.Frag} {ρ : List Addr} {H : Hp} {ps : List (κ × D)} {ws : List (κ × V)} (h : KR K ρ H ps ws) (k : κ) : (valV ws k).isSome = (Mx.look ps k).isSome := by
  obtain ⟨l1, l2⟩ := h.look k
  cases q : Mx.look ps k with
  | none => rw [l2 q]; rfl
  | some z => obtain ⟨y, e, _⟩ := l1 z q; rw [e]; rfl
/-- what the three ways of «in» are asked for -/
def InR (T : List (Addr × Str)) (X : Cx) (op : CmpOp) (g : Bool → Bool) : Prop :=
  OpR X (compareOp op) (r2M T X.K fun x y => blM (do
    let b ← inD x y
    pure (g b)))
section
variable {X : Cx}
theorem in_core {op : CmpOp} {g : Bool → Bool} (h1 : OpR X (compareOp op) (fun x y H Q => ∃ p xs, y = .ref p ∧ (SqL X.K H p xs ∨ SqT X.K H p xs) ∧ flatV x = true ∧ xs.all flatV = true ∧ Q (.bl (g (inV x xs))) H))
    (h2 : OpR X (compareOp op) (fun x y H Q => ∃ d ds, Dp X.K H x d ∧ Dp X.K H y (.list ds) ∧ SeqAt.shaped d = true ∧ SeqAt.shaped (.list ds) = true ∧ Q (.bl (g (ds.any fun z => PyData.eqv z d))) H))
    (h3 : OpR X (compareOp op) (fun x y H Q => ∃ (c : Nat) (z : Str), x = .str ⟨#[c]⟩ ∧ y = .str z ∧ Q (.bl (g (decide (c ∈ z.cps.toList)))) H))
    (h4 : OpR X (compareOp op) (fun x y H Q => ∃ a o, y = .ref a ∧ DGet H a x o ∧ Q (.bl (g o.isSome)) H)) : InR T X op g := by
  intro pins s σ H x y v u Q I rx ry ⟨ρ, st, a, b, d, st', R, ha, hb, hg, k⟩
  obtain ⟨c, hc, rfl⟩ := blM_some hg
  obtain ⟨c0, s1, hc1, hc2⟩ := bind_some hc
  obtain ⟨rfl, rfl⟩ := pure_some hc2
  have flat : ∀ {ys : List D} {p : Addr} {vs : List V}, (SqL X.K H p vs ∨ SqT X.K H p vs) → DRs X.K ρ H ys vs → y = .ref p → inFlat a ys st = some (c0, st') → wpAny (model X.prog X.w) X.A (compareOp op v u) (EP X pins σ Q) X.xe s := by
    intro ys p vs q1 q2 ey hf
    obtain ⟨hz, hg1⟩ := guarded hf
    obtain ⟨rfl, rfl⟩ := pure_some hg1
    rw [Bool.and_eq_true] at hz
    exact h1 pins s σ H x _ v u Q I rx ry ⟨p, vs, ey, q1, flat_of ha hz.1, flats_of q2 hz.2, by rw [any_of ha hz.1 q2 hz.2]; exact k.now R (by rw [DR])⟩
  cases b with
  | tup ys =>
    obtain ⟨p, vs, e, q1, q2⟩ := hb.tup
    exact flat (.inr q1) q2 e hc1
  | rol ys =>
    obtain ⟨p, vs, e, q1, q2⟩ := hb.rol
    exact flat (.inl q1.sq) q2 e hc1
  | rot ys =>
    obtain ⟨p, vs, e, q1, q2⟩ := hb.rot
    exact flat (.inr q1) q2 e hc1
  | ref n =>
    have hc3 : inRef a n st = some (c0, st') := hc1
    have dict : ∀ kvs : List (Key × D), kvsOf st[n]? = some kvs → inDic a kvs st = some (c0, st') → wpAny (model X.prog X.w) X.A (compareOp op v u) (EP X pins σ Q) X.xe s := by
      intro kvs hn hf
      obtain ⟨p, ws, rfl, _, q1, q2⟩ := R.rdk hb hn
      unfold inDic at hf
      cases hk : keyD a with
      | none => rw [hk] at hf; cases hf
      | some ky =>
        rw [hk] at hf
        cases hf
        have e := keyD_of ha hk
        subst e
        refine h4 pins s σ H _ _ v u Q I rx ry ⟨p, _, rfl, .inl ⟨ws, ky, q1, rfl, rfl⟩, ?_⟩
        rw [q2.some_look ky]
        exact k.now R (by rw [DR])
    unfold inRef at hc3
    split at hc3
    · rename_i ys hn
      obtain ⟨p, vs, e, _, q1, q2⟩ := R.lst hb hn
      split at hc3
      · exact flat (.inl (SqL.of q1)) q2 e hc3
      · unfold inDeep at hc3
        split at hc3
        · rename_i pa qs hp hq
          cases hc3
          have P := toPy_ok R 64 a x pa ha hp
          have P' := toPy_ok R 64 (.ref n) y (.list qs) hb (by
            unfold toPy
            simp only [hn, hq])
          exact h2 pins s σ H x _ v u Q I rx ry ⟨pa, qs, P.dp, P'.dp, P.shaped (Nat.le_refl _), P'.shaped (Nat.le_refl _), k.now R (by rw [DR])⟩
        · cases hc3
    · rename_i kvs hn
      exact dict kvs (by rw [hn]; rfl) hc3
    · rename_i kvs hn
      exact dict kvs (by rw [hn]; rfl) hc3
    · rename_i kvs hn
      obtain ⟨p, ws, rfl, _, q1, q2⟩ := R.dit hb hn
      unfold inDit at hc3
      cases hk : keysD a with
      | none => rw [hk] at hc3; cases hc3
      | some ks =>
        rw [hk] at hc3
        cases hc3
        obtain ⟨b, rfl, e⟩ := keysD_of ha hk
        refine h4 pins s σ H _ _ v u Q I rx ry ⟨p, _, rfl, DGet.t q1 e, ?_⟩
        rw [q2.some_look ks]
        exact k.now R (by rw [DR])
    · cases hc3
  | str z =>
    have hc3 : inStr a z st = some (c0, st') := hc1
    cases a with
    | str w =>
      have hc4 : (match oneSign w with | some c => some (decide (c ∈ z.cps.toList), st) | none => none) = some (c0, st') := hc3
      cases q : oneSign w with
      | none => rw [q] at hc4; cases hc4
      | some cc =>
        rw [q] at hc4
        cases hc4
        have e := oneSign_some q
        subst e
        exact h3 pins s σ H x y v u Q I rx ry ⟨cc, z, ha.str, hb.str, k.now R (by rw [DR])⟩
    | _ => cases hc3
  | _ => cases hc1
theorem op_inDic (hu : X.A.units + 1 < cLine) : OpR X (compareOp .In) (fun x y H Q => ∃ a o, y = .ref a ∧ DGet H a x o ∧ Q (.bl o.isSome) H) := by
  intro pins s σ H x y v u Q I rx ry ⟨a, o, e, g, q⟩
  subst e
  obtain rfl : u = Value.ref a := ry
  exact d_in hu I g rx fun s1 I1 => ⟨.bl o.isSome, H, I1, rfl, q⟩
theorem op_notInDic (hu : X.A.units + 1 < cLine) : OpR X (compareOp .NotIn) (fun x y H Q => ∃ a o, y = .ref a ∧ DGet H a x o ∧ Q (.bl (!o.isSome)) H) := by
  intro pins s σ H x y v u Q I rx ry ⟨a, o, e, g, q⟩
  subst e
  obtain rfl : u = Value.ref a := ry
  exact d_notIn hu I g rx fun s1 I1 => ⟨.bl (!o.isSome), H, I1, rfl, q⟩
theorem op_inM (hu : X.A.units + 65 < cLine) : InR T X .In id := in_core op_in_seq (op_inD hu) op_in_sign (op_inDic (by omega))
theorem op_notInM (hu : X.A.units + 65 < cLine) : InR T X .NotIn not := in_core op_notIn_seq (op_notInD hu) op_notIn_sign (op_notInDic (by omega))
end

/-! ### subscripts -/
def atD (xs : List D) : D → Option D
  | .int i => atI xs i
  | _ => none
def ofO (o : Option D) : M D := fun st => match o with
  | some d => some (d, st)
  | none => none
def ixDic (kvs : List (Key × D)) (y : D) : M D := fun st => match keyD y with
  | some k => ofO (look kvs k) st
  | none => none
def ixRef (n : Nat) (y : D) : M D := fun st => match st[n]? with
  | some (.lst xs) => ofO (atD xs y) st
  | some (.dic kvs) => ixDic kvs y st
  | some (.dif kvs) => ixDic kvs y st
  | _ => none
def strAt (z : Str) : D → Option D
  | .int i => match atI z.cps.toList i with
    | some c => some (.str ⟨#[c]⟩)
    | none => none
  | _ => none
def ixD (x y : D) : M D := match x with
  | .tup xs => ofO (atD xs y)
  | .rot xs => ofO (atD xs y)
  | .rol xs => ofO (atD xs y)
  | .str z => do
    guardM (decide (z.length ≤ sizeLine))
    ofO (strAt z y)
  | .ref n => ixRef n y
  | _ => fail
theorem ofO_some {o : Option D} {st st' : S} {d : D} (h : ofO o st = some (d, st')) : o = some d ∧ st' = st := by
  unfold ofO at h
  split at h
  · cases h; exact ⟨rfl, rfl⟩
  · cases h
theorem atD_some {xs : List D} {y d : D} (h : atD xs y = some d) : ∃ i, y = .int i ∧ L2.atI xs i = some d := by
  cases y with
  | int i => exact ⟨i, rfl, h⟩
  | _ => cases h
theorem DRs.atI {K : PySem.W.Frag} {ρ : List Addr} {H : Hp} {ds : List D} {vs : List V} {i : Int} {d : D} (h : DRs K ρ H ds vs) (e : L2.atI ds i = some d) : ∃ v, L2.atI vs i = some v ∧ DR K ρ H d v := by
  unfold L2.atI at e ⊢
  rw [h.length]
  cases q : ixN ds.length i with
  | none => rw [q] at e; cases e
  | some j =>
    rw [q] at e
    exact h.get (show ds[j]? = some d from e)
section
variable {X : Cx}
theorem ix_dic (hu : X.A.units + 1 < cLine) : IxR X (fun x y H Q => ∃ a v, x = .ref a ∧ DGet H a y (some v) ∧ Q v H) := by
  intro value slice pins s σ H x y v u Q I rx ry ⟨a, w, e, g, q⟩ hs
  subst e
  obtain rfl : v = Value.ref a := rx
  exact PyProof.Rows.tail_any (dict_typeIs I g) PySem.F.slot_dict_getitem.lookup (d_getItem hu I g ry fun w' s3 I3 rw' => ⟨w, H, I3, rw', q⟩) hs
theorem ixM (hu : X.A.units + 1 < cLine) : IxR X (r2M T X.K ixD) := by
  intro value slice pins s σ H x y v u Q I rx ry ⟨ρ, st, a, b, d, st', R, ha, hb, hg, k⟩ hs
  cases a with
  | tup xs =>
    obtain ⟨hg1, rfl⟩ := ofO_some hg
    obtain ⟨i, rfl, hz⟩ := atD_some hg1
    obtain ⟨p, vs, rfl, q1, q2⟩ := ha.tup
    obtain ⟨w, e1, e2⟩ := q2.atI hz
    exact ix_tup value slice pins s σ H _ y v u Q I rx ry ⟨p, vs, _, w, rfl, hb.int, q1, e1, k.now R e2⟩ hs
  | rot xs =>
    obtain ⟨hg1, rfl⟩ := ofO_some hg
    obtain ⟨i, rfl, hz⟩ := atD_some hg1
    obtain ⟨p, vs, rfl, q1, q2⟩ := ha.rot
    obtain ⟨w, e1, e2⟩ := q2.atI hz
    exact ix_tup value slice pins s σ H _ y v u Q I rx ry ⟨p, vs, _, w, rfl, hb.int, q1, e1, k.now R e2⟩ hs
  | rol xs =>
    obtain ⟨hg1, rfl⟩ := ofO_some hg
    obtain ⟨i, rfl, hz⟩ := atD_some hg1
    obtain ⟨p, vs, rfl, q1, q2⟩ := ha.rol
    obtain ⟨w, e1, e2⟩ := q2.atI hz
    exact ix_list value slice pins s σ H _ y v u Q I rx ry ⟨p, vs, _, w, rfl, hb.int, q1.sq, e1, k.now R e2⟩ hs
  | str z =>
    obtain ⟨hz, hg1⟩ := guarded hg
    obtain ⟨hg2, rfl⟩ := ofO_some hg1
    cases b with
    | int i =>
      unfold strAt at hg2
      dsimp only at hg2
      split at hg2
      · rename_i c hc
        cases hg2
        exact ix_str value slice pins s σ H x y v u Q I rx ry ⟨_, _, c, ha.str, hb.int, of_decide_eq_true hz, hc, k.now R (by rw [DR])⟩ hs
      · cases hg2
    | _ => cases hg2
  | ref n =>
    have hg0 : ixRef n b st = some (d, st') := hg
    have dict : ∀ kvs : List (Key × D), kvsOf st[n]? = some kvs → ixDic kvs b st = some (d, st') → wpAny (model X.prog X.w) X.A (PyProof.Rows.subscriptTail value slice v u) (EP X pins σ Q) X.xe s := by
      intro kvs hn hf
      obtain ⟨p, ws, rfl, _, q1, q2⟩ := R.rdk ha hn
      unfold ixDic at hf
      cases hk : keyD b with
      | none => rw [hk] at hf; cases hf
      | some ky =>
        rw [hk] at hf
        have e := keyD_of hb hk
        subst e
        obtain ⟨hz, rfl⟩ := ofO_some hf
        obtain ⟨w, e1, e2⟩ := (q2.look ky).1 _ hz
        have g : DGet H p (kV ky) (some w) := .inl ⟨ws, ky, q1, rfl, e1.symm⟩
        exact ix_dic hu value slice pins s σ H _ _ v u Q I rx ry ⟨p, w, rfl, g, k.now R e2⟩ hs
    unfold ixRef at hg0
    split at hg0
    · rename_i xs hn
      obtain ⟨p, vs, rfl, _, q1, q2⟩ := R.lst ha hn
      obtain ⟨hg1, rfl⟩ := ofO_some hg0
      obtain ⟨i, rfl, hz⟩ := atD_some hg1
      obtain ⟨w, e1, e2⟩ := q2.atI hz
      exact ix_list value slice pins s σ H _ y v u Q I rx ry ⟨p, vs, _, w, rfl, hb.int, SqL.of q1, e1, k.now R e2⟩ hs
    · rename_i kvs hn
      exact dict kvs (by rw [hn]; rfl) hg0
    · rename_i kvs hn
      exact dict kvs (by rw [hn]; rfl) hg0
    · cases hg0
  | _ => cases hg
end

/-! ### slices -/
def cutD (xs : List D) (lo hi : Option Int) : List D := (xs.drop (HT.sIx xs.length 0 lo)).take (HT.sIx xs.length xs.length hi - HT.sIx xs.length 0 lo)
def slD (x : D) (lo hi : Option Int) : M D := match x with
  | .tup xs => pure (.tup (cutD xs lo hi))
  | .rol xs => new (.lst (cutD xs lo hi))
  | .ref n => do
    let xs ← lstAt n
    new (.lst (cutD xs lo hi))
  | _ => fail
theorem DRs.cut {K : PySem.W.Frag} {ρ : List Addr} {H : Hp} {ds : List D} {vs : List V} (lo hi : Option Int) (h : DRs K ρ H ds vs) : DRs K ρ H (cutD ds lo hi) (cutV vs lo hi) := by
  unfold cutD cutV
  rw [h.length]
  exact (h.drop _).take _
def rslM (T : List (Addr × Str)) (K : PySem.W.Frag) : V → Option Int → Option Int → Hp → VK → Prop := fun x lo hi H Q => ∃ (ρ : List Addr) (st : S) (a d : D) (st' : S), Rel T K ρ H st ∧ DR K ρ H a x ∧ slD a lo hi st = some (d, st') ∧ Post T K ρ H st' d Q
section
variable {X : Cx}
theorem slM : SlR X (rslM T X.K) := by
  intro pins s σ H x v vl vu lo hi sl Q I rx hs pl pu ⟨ρ, st, a, d, st', R, ha, hg, k⟩
  cases a with
  | tup xs =>
    obtain ⟨rfl, rfl⟩ := pure_some hg
    obtain ⟨p, vs, rfl, q1, q2⟩ := ha.tup
    refine sl_tupA pins s σ H _ v vl vu lo hi sl Q I rx hs pl pu ⟨p, vs, rfl, q1, fun e => ?_, fun _ => k.tup R (q2.cut lo hi)⟩
    have e0 : cutD xs lo hi = xs := by
      unfold cutD
      rw [← q2.length, e.1, e.2, List.drop_zero, Nat.sub_zero, q2.length]
      exact List.take_length
    rw [e0] at k
    exact k.now R ha
  | rol xs =>
    obtain ⟨p, vs, rfl, q1, q2⟩ := ha.rol
    cases hg
    exact sl_list pins s σ H _ v vl vu lo hi sl Q I rx hs pl pu ⟨p, vs, rfl, q1.sq, k.lst R (q2.cut lo hi)⟩
  | ref n =>
    obtain ⟨xs, s1, h1, hg1⟩ := bind_some hg
    obtain ⟨e1, rfl⟩ := lstAt_some h1
    obtain ⟨p, vs, rfl, _, q1, q2⟩ := R.lst ha e1
    cases hg1
    exact sl_list pins s σ H _ v vl vu lo hi sl Q I rx hs pl pu ⟨p, vs, rfl, SqL.of q1, k.lst R (q2.cut lo hi)⟩
  | _ => cases hg
end
end Mx


/-! Mx5: built-in functions by values. -/
namespace Mx
open PySem PySem.Spec L2
variable {T : List (Addr × Str)}

/-- the items of a list or tuple -/
def seqAt : D → M (List D)
  | .tup xs => pure xs
  | .rot xs => pure xs
  | .rol xs => pure xs
  | .ref n => lstAt n
  | _ => fail
theorem seqAt_some {K : PySem.W.Frag} {ρ : List Addr} {H : Hp} {st st' : S} {d : D} {v : V} {xs : List D} (R : Rel T K ρ H st) (hd : DR K ρ H d v) (h : seqAt d st = some (xs, st')) :
    st' = st ∧ ∃ a vs, v = .ref a ∧ (SqL K H a vs ∨ SqT K H a vs) ∧ DRs K ρ H xs vs := by
  cases d with
  | tup ys =>
    obtain ⟨rfl, rfl⟩ := pure_some h
    obtain ⟨a, vs, e, q1, q2⟩ := hd.tup
    exact ⟨rfl, a, vs, e, .inr q1, q2⟩
  | rot ys =>
    obtain ⟨rfl, rfl⟩ := pure_some h
    obtain ⟨a, vs, e, q1, q2⟩ := hd.rot
    exact ⟨rfl, a, vs, e, .inr q1, q2⟩
  | rol ys =>
    obtain ⟨rfl, rfl⟩ := pure_some h
    obtain ⟨a, vs, e, q1, q2⟩ := hd.rol
    exact ⟨rfl, a, vs, e, .inl q1.sq, q2⟩
  | ref n =>
    obtain ⟨e, rfl⟩ := lstAt_some h
    obtain ⟨a, vs, e, _, q1, q2⟩ := R.lst hd e
    exact ⟨rfl, a, vs, e, .inl (SqL.of q1), q2⟩
  | _ => cases h
/-- a list of the store or a locked one -/
def lolAt : D → M (List D)
  | .rol xs => pure xs
  | .ref n => lstAt n
  | _ => fail
theorem lolAt_some {K : PySem.W.Frag} {ρ : List Addr} {H : Hp} {st st' : S} {d : D} {v : V} {xs : List D} (R : Rel T K ρ H st) (hd : DR K ρ H d v) (h : lolAt d st = some (xs, st')) :
    st' = st ∧ ∃ a vs, v = .ref a ∧ SqL K H a vs ∧ DRs K ρ H xs vs := by
  cases d with
  | rol ys =>
    obtain ⟨rfl, rfl⟩ := pure_some h
    obtain ⟨a, vs, e, q1, q2⟩ := hd.rol
    exact ⟨rfl, a, vs, e, q1.sq, q2⟩
  | ref n =>
    obtain ⟨e, rfl⟩ := lstAt_some h
    obtain ⟨a, vs, e, _, q1, q2⟩ := R.lst hd e
    exact ⟨rfl, a, vs, e, SqL.of q1, q2⟩
  | _ => cases h
def boolsOf : List D → Option (List Bool)
  | [] => some []
  | .bl b :: r => match boolsOf r with
    | some bs => some (b :: bs)
    | none => none
  | _ => none
def intsOf : List D → Option (List Int)
  | [] => some []
  | .int b :: r => match intsOf r with
    | some bs => some (b :: bs)
    | none => none
  | _ => none
theorem boolsOf_some {K : PySem.W.Frag} {ρ : List Addr} {H : Hp} : ∀ {ds : List D} {vs : List V} {bs : List Bool}, DRs K ρ H ds vs → boolsOf ds = some bs → vs = bs.map V.bl
  | [], _, _, h, e => by rw [DRs] at h; subst h; cases e; rfl
  | d :: ds, _, bs, h, e => by
    rw [DRs] at h
    obtain ⟨v, r, rfl, h1, h2⟩ := h
    cases d with
    | bl b =>
      unfold boolsOf at e
      split at e
      · rename_i bs' hb
        cases e
        rw [h1.bl, boolsOf_some h2 hb]; rfl
      · cases e
    | _ => cases e
theorem intsOf_some {K : PySem.W.Frag} {ρ : List Addr} {H : Hp} : ∀ {ds : List D} {vs : List V} {bs : List Int}, DRs K ρ H ds vs → intsOf ds = some bs → vs = bs.map V.int
  | [], _, _, h, e => by rw [DRs] at h; subst h; cases e; rfl
  | d :: ds, _, bs, h, e => by
    rw [DRs] at h
    obtain ⟨v, r, rfl, h1, h2⟩ := h
    cases d with
    | int b =>
      unfold intsOf at e
      split at e
      · rename_i bs' hb
        cases e
        rw [h1.int, intsOf_some h2 hb]; rfl
      · cases e
    | _ => cases e

/-! ### types -/
def tyD (st : S) : D → Option Ty
  | .non => some .non
  | .bl _ => some .bool
  | .int _ => some .int
  | .str _ => some .str
  | .tup _ => some .tuple
  | .rot _ => some .tuple
  | .rol _ => some .list
  | .ref n => match st[n]? with
    | some (.lst _) => some .list
    | some (.dic _) => some .dict
    | some (.dit _) => some .dict
    | some (.dif _) => some .dict
    | none => none
  | .ty _ => none
def isTy (a b : Ty) : Bool := a == b || (a == .bool && b == .int)
theorem kit_isTy {K : PySem.W.Frag} (a b : Ty) : PySem.W.kitOne K (.type a.name) (.type b.name) = some (isTy a b) := by
  refine kit_ty ?_
  cases a <;> cases b <;> decide +kernel
theorem tyD_of {K : PySem.W.Frag} {ρ : List Addr} {H : Hp} {st : S} {d : D} {v : V} {t : Ty} (R : Rel T K ρ H st) (h : DR K ρ H d v) (e : tyD st d = some t) : TyX K H v (.type t.name) := by
  cases d with
  | non => cases e; rw [h.non]; exact .base .non
  | bl b => cases e; rw [h.bl]; exact .base (.bl b)
  | int b => cases e; rw [h.int]; exact .base (.int b)
  | str b => cases e; rw [h.str]; exact .base (.str b)
  | tup ds =>
    cases e
    obtain ⟨a, vs, rfl, q1, q2⟩ := h.tupS
    exact .base (.tup q1)
  | rot ds =>
    cases e
    obtain ⟨a, vs, rfl, q1, q2⟩ := h.rot
    rcases q1 with (q | ⟨o, q⟩) | ⟨o, its, n, q, c, _⟩
    · exact .base (.tup q)
    · exact .fTuple q
    · exact .kTuple q c
  | rol ds =>
    cases e
    obtain ⟨a, vs, rfl, q1, q2⟩ := h.rol
    rcases q1 with ⟨o, q⟩ | ⟨o, its, n, q, c, _⟩
    · exact .base (.frz q)
    · exact .kList q c
  | ref n =>
    unfold tyD at e
    dsimp only at e
    split at e
    · rename_i ds hn
      cases e
      obtain ⟨a, vs, rfl, _, q1, q2⟩ := R.lst h hn
      exact .base (.lst q1)
    · rename_i ds hn
      cases e
      obtain ⟨a, vs, rfl, _, q1, q2⟩ := R.dic h hn
      exact .base (.dK q1)
    · rename_i ds hn
      cases e
      obtain ⟨a, vs, rfl, _, q1, q2⟩ := R.dit h hn
      exact .base (.dT q1)
    · rename_i ds hn
      cases e
      rw [DR] at h
      obtain ⟨a, rfl, q1⟩ := h
      obtain ⟨ob, ws, q2, _⟩ := R.obj n a _ q1 hn
      exact .fDict q2
    · cases e
  | ty t => cases e
/-- the classes of a tuple of classes -/
def tysOf : List D → Option (List Ty)
  | [] => some []
  | .ty t :: r => match tysOf r with
    | some ts => some (t :: ts)
    | none => none
  | _ => none
def on1 (g : D → M D) : List D → M D
  | [x] => g x
  | _ => fail
def on2 (g : D → D → M D) : List D → M D
  | [x, y] => g x y
  | _ => fail
theorem on1_some {g : D → M D} {as : List D} {st st' : S} {d : D} (h : on1 g as st = some (d, st')) : ∃ x, as = [x] ∧ g x st = some (d, st') := by
  cases as with
  | nil => cases h
  | cons x r => cases r with
    | nil => exact ⟨x, rfl, h⟩
    | cons y r => cases h
theorem on2_some {g : D → D → M D} {as : List D} {st st' : S} {d : D} (h : on2 g as st = some (d, st')) : ∃ x y, as = [x, y] ∧ g x y st = some (d, st') := by
  cases as with
  | nil => cases h
  | cons x r => cases r with
    | nil => cases h
    | cons y r => cases r with
      | nil => exact ⟨x, y, rfl, h⟩
      | cons z r => cases h
def clsOf : D → Option (List Ty)
  | .ty t => some [t]
  | .tup cs => tysOf cs
  | _ => none
def isi1 (x c : D) : M D := fun st => match tyD st x, clsOf c with
  | some t, some ts => some (.bl (ts.any (isTy t)), st)
  | _, _ => none
theorem DR.ty {K : PySem.W.Frag} {ρ : List Addr} {H : Hp} {t : Ty} {v : V} (h : DR K ρ H (.ty t) v) : v = .ty t.name := by rw [DR] at h; exact h
theorem tysOf_some {K : PySem.W.Frag} {ρ : List Addr} {H : Hp} {t : Ty} : ∀ {ds : List D} {vs : List V} {ts : List Ty}, DRs K ρ H ds vs → tysOf ds = some ts → Paired ClsV vs (ts.map fun c => Value.type c.name) ∧ PySem.W.kitAny K (.type t.name) (ts.map fun c => Value.type c.name) = some (ts.any (isTy t))
  | [], _, _, h, e => by rw [DRs] at h; subst h; cases e; exact ⟨.nil, rfl⟩
  | d :: ds, _, bs, h, e => by
    rw [DRs] at h
    obtain ⟨v, r, rfl, h1, h2⟩ := h
    cases d with
    | ty b =>
      unfold tysOf at e
      split at e
      · rename_i bs' hb
        cases e
        obtain ⟨i1, i2⟩ := tysOf_some (t := t) h2 hb
        refine ⟨.cons (by rw [h1.ty]; exact .ty _) i1, ?_⟩
        rw [List.map_cons, List.any_cons]
        refine kitAny_cons (kit_isTy t b) (fun z => by rw [z]; exact i2) (fun z => by rw [z]; rfl)
      · cases e
    | _ => cases e
theorem DRs.one {K : PySem.W.Frag} {ρ : List Addr} {H : Hp} {d : D} {vs : List V} (h : DRs K ρ H [d] vs) : ∃ v, vs = [v] ∧ DR K ρ H d v := by
  rw [DRs] at h
  obtain ⟨v, r, rfl, h1, h2⟩ := h
  rw [DRs] at h2; subst h2
  exact ⟨v, rfl, h1⟩
theorem DRs.two {K : PySem.W.Frag} {ρ : List Addr} {H : Hp} {d e : D} {vs : List V} (h : DRs K ρ H [d, e] vs) : ∃ v w, vs = [v, w] ∧ DR K ρ H d v ∧ DR K ρ H e w := by
  rw [DRs] at h
  obtain ⟨v, r, rfl, h1, h2⟩ := h
  obtain ⟨w, rfl, h3⟩ := h2.one
  exact ⟨v, w, rfl, h1, h3⟩
section
variable {X : Cx}
theorem call_isiM : CallR X (.builtin "isinstance") (rnM T X.K (on2 isi1)) := by
  intro pins s σ H xs us Q I rs ⟨ρ, st, as, d, st', R, ha, hg, k⟩
  obtain ⟨x, c, rfl, hg1⟩ := on2_some hg
  obtain ⟨v, w, rfl, h1, h2⟩ := ha.two
  unfold isi1 at hg1
  split at hg1
  · rename_i t ts ht hts
    cases hg1
    cases c with
    | ty c =>
      cases hts
      exact call_isi pins s σ H _ us Q I rs ⟨v, w, _, _, _, rfl, by rw [h2.ty]; exact .ty _, tyD_of R h1 ht, kit_isTy t c, k.now R (by rw [DR]; simp)⟩
    | tup cs =>
      have hts' : tysOf cs = some ts := hts
      obtain ⟨p, vs, rfl, q1, q2⟩ := h2.tup
      obtain ⟨i1, i2⟩ := tysOf_some (t := t) q2 hts'
      obtain ⟨u1, u2, rfl, r1, r2⟩ := vals2 rs
      cases (show u2 = Value.ref p from r2)
      obtain ⟨its, rv, ⟨⟨oc, od, dt, sl⟩, g1, g2, n, g3⟩, _⟩ := I.tuple q1
      have g2' : oc = .type "tuple" := g2
      have g3' : dt = .seq its.toArray n := g3
      subst g2' g3'
      have e3 := ClsV.all i1 rv
      obtain ⟨P, Z, pp, hx⟩ := kit_of I r1 (tyD_of R h1 ht)
      rw [e3] at g1
      exact PySem.W.kia_tup Z I.kIn pp g1 i2 hx fun tk => ⟨.bl _, H, I.tok tk, rfl, k.now R (by rw [DR])⟩
    | _ => cases hts
  · cases hg1

/-! ### functions of sequences -/
def lenD : D → M D
  | .str z => do
    guardM (decide (z.length ≤ sizeLine))
    pure (.int z.length)
  | .tup xs => pure (.int xs.length)
  | .rot xs => pure (.int xs.length)
  | .rol xs => pure (.int xs.length)
  | .ref n => fun st => match st[n]? with
    | some (.lst xs) => some (.int xs.length, st)
    | some (.dic kvs) => some (.int kvs.length, st)
    | some (.dif kvs) => some (.int kvs.length, st)
    | _ => none
  | _ => fail
theorem call_lenR : CallR X (.builtin "len") (fun xs H Q => ∃ (a : Addr) (kvs : List (Key × V)), xs = [.ref a] ∧ Rd H a (.dK kvs) ∧ Q (.int kvs.length) H) := by
  intro pins s σ H xs us Q I rs ⟨a, kvs, e, g, q⟩
  subst e
  cases rs with
  | cons r rr =>
    cases rr
    cases r
    exact d_len I g fun t s' I' => ⟨.int kvs.length, H, I', ⟨t, rfl⟩, q⟩
theorem call_lenM : CallR X (.builtin "len") (rnM T X.K (on1 lenD)) := by
  intro pins s σ H xs us Q I rs ⟨ρ, st, as, d, st', R, ha, hg, k⟩
  obtain ⟨x, rfl, hg1⟩ := on1_some hg
  obtain ⟨v, rfl, h1⟩ := ha.one
  cases x with
  | str z =>
    obtain ⟨hz, hg2⟩ := guarded hg1
    obtain ⟨rfl, rfl⟩ := pure_some hg2
    exact call_len_str pins s σ H _ us Q I rs ⟨z, by rw [h1.str], of_decide_eq_true hz, k.now R (by rw [DR])⟩
  | tup xs =>
    obtain ⟨rfl, rfl⟩ := pure_some hg1
    obtain ⟨p, vs, rfl, q1, q2⟩ := h1.tup
    exact call_len_seq pins s σ H _ us Q I rs ⟨p, vs, rfl, .inr q1, by rw [q2.length]; exact k.now R (by rw [DR])⟩
  | rot xs =>
    obtain ⟨rfl, rfl⟩ := pure_some hg1
    obtain ⟨p, vs, rfl, q1, q2⟩ := h1.rot
    exact call_len_seq pins s σ H _ us Q I rs ⟨p, vs, rfl, .inr q1, by rw [q2.length]; exact k.now R (by rw [DR])⟩
  | rol xs =>
    obtain ⟨rfl, rfl⟩ := pure_some hg1
    obtain ⟨p, vs, rfl, q1, q2⟩ := h1.rol
    exact call_len_seq pins s σ H _ us Q I rs ⟨p, vs, rfl, .inl q1.sq, by rw [q2.length]; exact k.now R (by rw [DR])⟩
  | ref n =>
    have hg2 : (match st[n]? with | some (.lst xs) => some (D.int xs.length, st) | some (.dic kvs) => some (D.int kvs.length, st) | some (.dif kvs) => some (D.int kvs.length, st) | _ => none) = some (d, st') := hg1
    split at hg2
    · rename_i ys hn
      cases hg2
      obtain ⟨p, vs, rfl, _, q1, q2⟩ := R.lst h1 hn
      exact call_len_seq pins s σ H _ us Q I rs ⟨p, vs, rfl, .inl (SqL.of q1), by rw [q2.length]; exact k.now R (by rw [DR])⟩
    · rename_i kvs hn
      cases hg2
      obtain ⟨p, ws, rfl, _, q1, q2⟩ := R.rdk h1 (show kvsOf st[n]? = some kvs by rw [hn]; rfl)
      exact call_lenR pins s σ H _ us Q I rs ⟨p, ws, rfl, q1, by rw [q2.length]; exact k.now R (by rw [DR])⟩
    · rename_i kvs hn
      cases hg2
      obtain ⟨p, ws, rfl, _, q1, q2⟩ := R.rdk h1 (show kvsOf st[n]? = some kvs by rw [hn]; rfl)
      exact call_lenR pins s σ H _ us Q I rs ⟨p, ws, rfl, q1, by rw [q2.length]; exact k.now R (by rw [DR])⟩
    · cases hg2
  | _ => cases hg1
def allD (x : D) : M D := do
  let xs ← lolAt x
  match boolsOf xs with
    | some bs => pure (.bl (bs.all id))
    | none => fail
def anyD (x : D) : M D := do
  let xs ← lolAt x
  match boolsOf xs with
    | some bs => pure (.bl (bs.any id))
    | none => fail
theorem call_allM (hc : X.calm = true) : CallR X (.builtin "all") (rnM T X.K (on1 allD)) := by
  intro pins s σ H xs us Q I rs ⟨ρ, st, as, d, st', R, ha, hg, k⟩
  obtain ⟨x, rfl, hg1⟩ := on1_some hg
  obtain ⟨v, rfl, h1⟩ := ha.one
  obtain ⟨ys, s1, e1, hg2⟩ := bind_some hg1
  obtain ⟨rfl, p, vs, rfl, q1, q2⟩ := lolAt_some R h1 e1
  cases hb : boolsOf ys with
  | none => rw [hb] at hg2; cases hg2
  | some bs =>
    rw [hb] at hg2
    obtain ⟨rfl, rfl⟩ := pure_some hg2
    exact cr_all hc pins s σ H _ us Q I rs ⟨p, bs, rfl, by rw [← boolsOf_some q2 hb]; exact q1, k.now R (by rw [DR])⟩
theorem call_anyM (hc : X.calm = true) : CallR X (.builtin "any") (rnM T X.K (on1 anyD)) := by
  intro pins s σ H xs us Q I rs ⟨ρ, st, as, d, st', R, ha, hg, k⟩
  obtain ⟨x, rfl, hg1⟩ := on1_some hg
  obtain ⟨v, rfl, h1⟩ := ha.one
  obtain ⟨ys, s1, e1, hg2⟩ := bind_some hg1
  obtain ⟨rfl, p, vs, rfl, q1, q2⟩ := lolAt_some R h1 e1
  cases hb : boolsOf ys with
  | none => rw [hb] at hg2; cases hg2
  | some bs =>
    rw [hb] at hg2
    obtain ⟨rfl, rfl⟩ := pure_some hg2
    exact cr_any hc pins s σ H _ us Q I rs ⟨p, bs, rfl, by rw [← boolsOf_some q2 hb]; exact q1, k.now R (by rw [DR])⟩
def seqNew : D → M (List D)
  | .tup xs => pure xs
  | .rol xs => pure xs
  | .ref n => lstAt n
  | _ => fail
def tupleD (x : D) : M D := do
  let xs ← seqNew x
  pure (.tup xs)
theorem call_tupleM : CallR X (.type "tuple") (rnM T X.K (on1 tupleD)) := by
  intro pins s σ H xs us Q I rs ⟨ρ, st, as, d, st', R, ha, hg, k⟩
  obtain ⟨x, rfl, hg1⟩ := on1_some hg
  obtain ⟨v, rfl, h1⟩ := ha.one
  obtain ⟨ys, s1, e1, hg2⟩ := bind_some hg1
  obtain ⟨rfl, rfl⟩ := pure_some hg2
  cases x with
  | tup zs =>
    obtain ⟨rfl, rfl⟩ := pure_some e1
    obtain ⟨p, vs, rfl, q1, q2⟩ := h1.tup
    exact call_tuple_of pins s σ H _ us Q I rs ⟨p, vs, rfl, .inr ⟨q1, k.now R h1⟩⟩
  | rot zs => cases e1
  | rol zs =>
    obtain ⟨rfl, rfl⟩ := pure_some e1
    obtain ⟨p, vs, rfl, q1, q2⟩ := h1.rol
    exact call_tuple_of pins s σ H _ us Q I rs ⟨p, vs, rfl, .inl ⟨q1.sq, k.tup R q2⟩⟩
  | ref n =>
    obtain ⟨e, rfl⟩ := lstAt_some e1
    obtain ⟨p, vs, rfl, _, q1, q2⟩ := R.lst h1 e
    exact call_tuple_of pins s σ H _ us Q I rs ⟨p, vs, rfl, .inl ⟨SqL.of q1, k.tup R q2⟩⟩
  | _ => cases e1
def listD (x : D) : M D := do
  let xs ← seqAt x
  new (.lst xs)
theorem call_listM : CallR X (.type "list") (rnM T X.K (on1 listD)) := by
  intro pins s σ H xs us Q I rs ⟨ρ, st, as, d, st', R, ha, hg, k⟩
  obtain ⟨x, rfl, hg1⟩ := on1_some hg
  obtain ⟨v, rfl, h1⟩ := ha.one
  obtain ⟨ys, s1, e1, hg2⟩ := bind_some hg1
  obtain ⟨rfl, p, vs, rfl, q1, q2⟩ := seqAt_some R h1 e1
  cases hg2
  exact call_list_of pins s σ H _ us Q I rs ⟨p, vs, rfl, q1, k.lst R q2⟩
def absD : D → M D
  | .int i => pure (.int (if i < 0 then -i else i))
  | _ => fail
theorem call_absM : CallR X (.builtin "abs") (rnM T X.K (on1 absD)) := by
  intro pins s σ H xs us Q I rs ⟨ρ, st, as, d, st', R, ha, hg, k⟩
  obtain ⟨x, rfl, hg1⟩ := on1_some hg
  obtain ⟨v, rfl, h1⟩ := ha.one
  cases x with
  | int i =>
    obtain ⟨rfl, rfl⟩ := pure_some hg1
    exact call_abs pins s σ H _ us Q I rs ⟨i, by rw [h1.int], k.now R (by rw [DR])⟩
  | _ => cases hg1
def intD : D → M D
  | .int i => pure (.int i)
  | _ => fail
theorem call_intM : CallR X (.type "int") (rnM T X.K (on1 intD)) := by
  intro pins s σ H xs us Q I rs ⟨ρ, st, as, d, st', R, ha, hg, k⟩
  obtain ⟨x, rfl, hg1⟩ := on1_some hg
  obtain ⟨v, rfl, h1⟩ := ha.one
  cases x with
  | int i =>
    obtain ⟨rfl, rfl⟩ := pure_some hg1
    exact call_int1 pins s σ H _ us Q I rs (.inl ⟨i, by rw [h1.int], k.now R (by rw [DR])⟩)
  | _ => cases hg1
def strD : D → M D
  | .int i => do
    guardM (decide (i.natAbs.log2 < 1920))
    pure (.str (toString i))
  | _ => fail
theorem call_strM : CallR X (.type "str") (rnM T X.K (on1 strD)) := by
  intro pins s σ H xs us Q I rs ⟨ρ, st, as, d, st', R, ha, hg, k⟩
  obtain ⟨x, rfl, hg1⟩ := on1_some hg
  obtain ⟨v, rfl, h1⟩ := ha.one
  cases x with
  | int i =>
    obtain ⟨hz, hg2⟩ := guarded hg1
    obtain ⟨rfl, rfl⟩ := pure_some hg2
    exact call_str_int pins s σ H _ us Q I rs ⟨i, by rw [h1.int], of_decide_eq_true hz, k.now R (by rw [DR])⟩
  | _ => cases hg1
def maxI : List Int → Int
  | [] => 0
  | x :: r => r.foldl max x
theorem foldl_max_mem : ∀ (r : List Int) (x : Int), r.foldl max x ∈ x :: r ∧ ∀ y ∈ x :: r, y ≤ r.foldl max x
  | [], x => ⟨by simp, by simp⟩
  | z :: r, x => by
    obtain ⟨h1, h2⟩ := foldl_max_mem r (max x z)
    rw [List.foldl_cons]
    refine ⟨?_, fun y hy => ?_⟩
    · rcases List.mem_cons.mp h1 with e | e
      · rw [e]
        rcases Int.le_total x z with q | q
        · rw [Int.max_eq_right q]; simp
        · rw [Int.max_eq_left q]; simp
      · simp [e]
    · have hb := h2 (max x z) (by simp)
      rcases List.mem_cons.mp hy with e | e
      · rw [e]; exact Int.le_trans (Int.le_max_left _ _) hb
      · rcases List.mem_cons.mp e with e | e
        · rw [e]; exact Int.le_trans (Int.le_max_right _ _) hb
        · exact h2 y (by simp [e])
def maxD (x : D) : M D := do
  let xs ← lolAt x
  match intsOf xs with
    | some (b :: bs) => pure (.int (maxI (b :: bs)))
    | _ => fail
theorem call_maxM (hc : X.calm = true) : CallR X (.builtin "max") (rnM T X.K (on1 maxD)) := by
  intro pins s σ H xs us Q I rs ⟨ρ, st, as, d, st', R, ha, hg, k⟩
  obtain ⟨x, rfl, hg1⟩ := on1_some hg
  obtain ⟨v, rfl, h1⟩ := ha.one
  obtain ⟨ys, s1, e1, hg2⟩ := bind_some hg1
  obtain ⟨rfl, p, vs, rfl, q1, q2⟩ := lolAt_some R h1 e1
  cases hb : intsOf ys with
  | none => rw [hb] at hg2; cases hg2
  | some bs =>
    rw [hb] at hg2
    cases bs with
    | nil => cases hg2
    | cons b bs =>
      obtain ⟨rfl, rfl⟩ := pure_some hg2
      refine cr_max hc pins s σ H _ us Q I rs ⟨p, b :: bs, rfl, by rw [← intsOf_some q2 hb]; exact q1, Nat.succ_pos _, fun m hm hall => ?_⟩
      obtain ⟨f1, f2⟩ := foldl_max_mem bs b
      have e : m = maxI (b :: bs) := Int.le_antisymm (f2 m hm) (hall _ f1)
      rw [e]
      exact k.now R (by rw [DR])
def minD : D → D → M D
  | .int i, .int j => pure (.int (if j < i then j else i))
  | _, _ => fail
theorem call_minM (hc : X.calm = true) : CallR X (.builtin "min") (rnM T X.K (on2 minD)) := by
  intro pins s σ H xs us Q I rs ⟨ρ, st, as, d, st', R, ha, hg, k⟩
  obtain ⟨x, y, rfl, hg1⟩ := on2_some hg
  obtain ⟨v, w, rfl, h1, h2⟩ := ha.two
  cases x with
  | int i => cases y with
    | int j =>
      obtain ⟨rfl, rfl⟩ := pure_some hg1
      exact call_min2 hc pins s σ H _ us Q I rs ⟨i, j, by rw [h1.int, h2.int], k.now R (by rw [DR])⟩
    | _ => cases hg1
  | _ => cases y <;> cases hg1
def dictD : D → M D
  | .ref n => do
    let kvs ← dicAt n
    new (.dic kvs)
  | _ => fail
theorem call_dictM : CallR X (.type "dict") (rnM T X.K (on1 dictD)) := by
  intro pins s σ H xs us Q I rs ⟨ρ, st, as, d, st', R, ha, hg, k⟩
  obtain ⟨x, rfl, hg1⟩ := on1_some hg
  obtain ⟨v, rfl, h1⟩ := ha.one
  cases x with
  | ref n =>
    obtain ⟨kvs, s1, e1, hg2⟩ := bind_some hg1
    obtain ⟨e, rfl⟩ := dicAt_some e1
    obtain ⟨p, ws, rfl, _, q1, q2⟩ := R.rdk h1 e
    cases hg2
    exact call_dictD pins s σ H _ us Q I rs ⟨p, ws, rfl, q1, k.dic R q2⟩
  | _ => cases hg1
end
end Mx


/-! Mx6: expressions by the store: one rule a form, each over the readings eM, tM, aM. -/
namespace Mx
open PySem PySem.Spec L2
variable {T : List (Addr × Str)}

section
variable {X : Cx} {K : PySem.W.Frag} {ρ : List Addr} {H : Hp} {st : S} {σ : St} {es : Es}
theorem PE.as {e : Expr} {t t' : TE} (h : PE X e t) (i : ∀ σ H Q, t' σ H Q → t σ H Q) : PE X e t' := ⟨fun pins s σ H Q I q => h.run pins s σ H Q I (i σ H Q q)⟩
theorem PT.as {e : Expr} {t t' : TT} (h : PT X e t) (i : ∀ σ H Q, t' σ H Q → t σ H Q) : PT X e t' := ⟨fun pins s σ H Q I q => h.run pins s σ H Q I (i σ H Q q)⟩
theorem PW.as {e : Expr} {t t' : TT} (h : PW X e t) (i : ∀ σ H Q, t' σ H Q → t σ H Q) : PW X e t' := ⟨fun w pins s σ H Q I q => h.run w pins s σ H Q I (i σ H Q q)⟩
theorem PA.as {e : List Expr} {t t' : TA} (h : PA X e t) (i : ∀ σ H Q, t' σ H Q → t σ H Q) : PA X e t' := ⟨fun pos pins s σ H Q I q => h.run pos pins s σ H Q I (i σ H Q q)⟩
theorem PK.as {e : List Keyword} {t t' : TA} (h : PK X e t) (i : ∀ σ H Q, t' σ H Q → t σ H Q) : PK X e t' := ⟨fun pos pins s σ H Q I q => h.run pos pins s σ H Q I (i σ H Q q)⟩
end

/-! ### names and constants -/
def varD (i : Nat) (es : Es) : M D := fun st => match es[i]? with
  | some (some d) => some (d, st)
  | _ => none
theorem varD_some {i : Nat} {es : Es} {st st' : S} {d : D} (h : varD i es st = some (d, st')) : es[i]? = some (some d) ∧ st' = st := by
  unfold varD at h
  split at h
  · cases h; exact ⟨by assumption, rfl⟩
  · cases h
def cD (d : D) : Es → M D := fun _ => pure d
section
variable {X : Cx} {pos : Pos}
theorem mvar (i : Nat) {x : Str} (hN : X.N[i]? = some x := by rfl) (hv : Vis X.env.scope x := by first | exact Or.inl rfl | exact Or.inr (Or.inl rfl) | exact Or.inr (Or.inr rfl)) (hd : (x == ("__debug__" : Str)) = false := by decide)
    (hcd : (x == ("__classdict__" : Str)) = false := by decide) : PE X (.Name x pos) (eM T X.K (varD i)) :=
  PE.as (pe_var hN hv hd hcd) fun σ H Q ⟨ρ, st, es, d, st', R, E, hm, k⟩ => by
    obtain ⟨h1, rfl⟩ := varD_some hm
    obtain ⟨v, h2, h3⟩ := E.2 i d h1
    exact ⟨v, h2, k.now R h3⟩
/-- a value that stands for d in every world -/
def Std (K : PySem.W.Frag) (d : D) (v : V) : Prop := ∀ ρ H, DR K ρ H d v
theorem mcon {e : Expr} {d : D} {v : V} (h : PE X e (tC v)) (hd : Std X.K d v) : PE X e (eM T X.K (cD d)) :=
  PE.as h fun σ H Q ⟨ρ, st, es, d', st', R, E, hm, k⟩ => by
    obtain ⟨rfl, rfl⟩ := pure_some hm
    exact k.now R (hd ρ H)
theorem std_int {K : PySem.W.Frag} {i : Int} : Std K (.int i) (.int i) := fun _ _ => by rw [DR]
theorem std_str {K : PySem.W.Frag} {i : Str} : Std K (.str i) (.str i) := fun _ _ => by rw [DR]
theorem std_bl {K : PySem.W.Frag} {i : Bool} : Std K (.bl i) (.bl i) := fun _ _ => by rw [DR]
theorem std_non {K : PySem.W.Frag} : Std K .non .non := fun _ _ => by rw [DR]
theorem std_ty {K : PySem.W.Frag} {t : Ty} : Std K (.ty t) (.ty t.name) := fun _ _ => by rw [DR]
theorem mint {i : Int} {j} : PE X (.Constant (.int i) j pos) (eM T X.K (cD (.int i))) := mcon pe_int std_int
theorem mstr {i : Str} {j} : PE X (.Constant (.str i) j pos) (eM T X.K (cD (.str i))) := mcon pe_str std_str
theorem mbl {i : Bool} {j} : PE X (.Constant (.bool i) j pos) (eM T X.K (cD (.bl i))) := mcon pe_bl std_bl
theorem mnon {j} : PE X (.Constant .none j pos) (eM T X.K (cD .non)) := mcon pe_non std_non
/-- a built-in class as a value -/
theorem mty (t : Ty) {x : Str} (hg : Gl X x) (hm : X.mg x = none) (hv : bootBuiltins x = some (.type t.name) := by rfl) (hn : x ≠ "__name__" := by decide) (hd : (x == ("__debug__" : Str)) = false := by decide) : PE X (.Name x pos) (eM T X.K (cD (.ty t))) :=
  mcon (pe_bltn hg hm hv (v := .ty t.name) rfl hn hd) std_ty
/-- a constant of the module -/
theorem mglob {x : Str} {d : D} {v : V} {u : Value} (hg : Gl X x) (hm : X.mg x = some u) (r : RelV v u) (hd : Std X.K d v) (hdb : (x == ("__debug__" : Str)) = false := by decide) : PE X (.Name x pos) (eM T X.K (cD d)) := mcon (pe_glob hg hm r hdb) hd
end

/-! ### operators -/
def opD (g : D → D → M D) (a b : Es → M D) : Es → M D := fun es => do
  let x ← a es
  let y ← b es
  g x y
def unD (g : D → M D) (a : Es → M D) : Es → M D := fun es => do
  let x ← a es
  g x
theorem two_of {K : PySem.W.Frag} {r : R2} {g : D → D → M D} (hr : ∀ x y H Q, r2M T K g x y H Q → r x y H Q) {a b : Es → M D} {σ : St} {H : Hp} {Q : VK} (h : eM T K (opD g a b) σ H Q) : tOp r (eM T K a) (eM T K b) σ H Q := by
  obtain ⟨ρ, st, es, d, st', R, E, hm, k⟩ := h
  obtain ⟨x, s1, h1, hm⟩ := bind_some hm
  obtain ⟨y, s2, h2, h3⟩ := bind_some hm
  refine ⟨ρ, st, es, x, s1, R, E, h1, fun ρ1 v1 H1 e1 R1 d1 => ⟨ρ1, s1, es, y, s2, R1, E.ext R e1, h2, fun ρ2 v2 H2 e2 R2 d2 => hr _ _ _ _ ⟨ρ2, s2, x, y, d, st', R2, DR.ext R1 e2 _ _ d1, d2, h3, fun ρ3 v3 H3 e3 R3 d3 => ?_⟩⟩⟩
  exact k ρ3 v3 H3 ((e1.trans e2).trans e3) R3 d3
theorem one_of {K : PySem.W.Frag} {r : V → Hp → VK → Prop} {g : D → M D} (hr : ∀ x H Q, r1M T K g x H Q → r x H Q) {a : Es → M D} {σ : St} {H : Hp} {Q : VK} (h : eM T K (unD g a) σ H Q) : tUn r (eM T K a) σ H Q := by
  obtain ⟨ρ, st, es, d, st', R, E, hm, k⟩ := h
  obtain ⟨x, s1, h1, h3⟩ := bind_some hm
  exact ⟨ρ, st, es, x, s1, R, E, h1, fun ρ1 v1 H1 e1 R1 d1 => hr _ _ _ ⟨ρ1, s1, x, d, st', R1, d1, h3, fun ρ3 v3 H3 e3 R3 d3 => k ρ3 v3 H3 (e1.trans e3) R3 d3⟩⟩
section
variable {X : Cx} {pos p2 : Pos} {a b c : Expr} {ma mb mc : Es → M D}
theorem mbin (o : Operator) (ha : PE X a (eM T X.K ma)) (hb : PE X b (eM T X.K mb)) : PE X (.BinOp a o b pos) (eM T X.K (opD (binD o) ma mb)) :=
  PE.as (pe_op (op_binM o) ha hb) fun _ _ _ h => two_of (fun _ _ _ _ q => q) h
theorem mneg (ha : PE X a (eM T X.K ma)) : PE X (.UnaryOp .USub a pos) (eM T X.K (unD negD ma)) :=
  PE.as (pe_un un_negM ha) fun _ _ _ h => one_of (fun _ _ _ q => q) h
theorem mcmp {op : CmpOp} {g : D → D → M D} (ho : OpR X (compareOp op) (r2M T X.K g)) (ha : PE X a (eM T X.K ma)) (hb : PE X b (eM T X.K mb)) (hm : behindInMarks op b = false := by first | exact nomark _ | with_unfolding_all rfl) : PE X (.Compare a [op] [b] pos) (eM T X.K (opD g ma mb)) :=
  PE.as (pe_cmpR ho ha hb hm) fun _ _ _ h => two_of (fun _ _ _ _ q => q) h
theorem mix (hu : X.A.units + 1 < cLine) (ha : PE X a (eM T X.K ma)) (hb : PE X b (eM T X.K mb)) (hs : PlainIx b := by intro _ _; rfl) : PE X (.Subscript a b pos) (eM T X.K (opD ixD ma mb)) :=
  PE.as (pe_ix (ixM hu) ha hb hs) fun _ _ _ h => two_of (fun _ _ _ _ q => q) h
/-- a op b op' c -/
def chD (g g' : D → D → M D) (a b c : Es → M D) : Es → M D := fun es => do
  let x ← a es
  let y ← b es
  let z ← g x y
  match z with
    | .bl true => do
      let w ← c es
      g' y w
    | .bl false => pure (.bl false)
    | _ => fail
theorem mchain {op op' : CmpOp} {g g' : D → D → M D} (ho : OpR X (compareOp op) (r2M T X.K g)) (ho' : OpR X (compareOp op') (r2M T X.K g')) (ha : PE X a (eM T X.K ma)) (hb : PE X b (eM T X.K mb)) (hc : PE X c (eM T X.K mc))
    (hm : lastMarks [op, op'] [b, c] = false := by with_unfolding_all rfl) : PE X (.Compare a [op, op'] [b, c] pos) (eM T X.K (chD g g' ma mb mc)) :=
  PE.as (pe_chain ho ho' ha hb hc hm) fun σ H Q h => by
    obtain ⟨ρ, st, es, d, st', R, E, hm, k⟩ := h
    obtain ⟨x, s1, h1, hm1⟩ := bind_some hm
    obtain ⟨y, s2, h2, hm2⟩ := bind_some hm1
    obtain ⟨z, s3, h3, hm3⟩ := bind_some hm2
    refine ⟨ρ, st, es, x, s1, R, E, h1, fun ρ1 v1 H1 e1 R1 d1 => ⟨ρ1, s1, es, y, s2, R1, E.ext R e1, h2, fun ρ2 v2 H2 e2 R2 d2 => ⟨ρ2, s2, x, y, z, s3, R2, DR.ext R1 e2 _ _ d1, d2, h3, fun ρ3 v3 H3 e3 R3 d3 => ?_⟩⟩⟩
    cases z with
    | bl q =>
      refine ⟨q, d3.bl, ?_⟩
      cases q with
      | false =>
        obtain ⟨rfl, rfl⟩ := pure_some hm3
        rw [if_neg Bool.false_ne_true]
        exact k ρ3 _ H3 ((e1.trans e2).trans e3) R3 (by rw [DR])
      | true =>
        obtain ⟨w, s4, h4, h5⟩ := bind_some hm3
        rw [if_pos rfl]
        refine ⟨ρ3, s3, es, w, s4, R3, E.ext R ((e1.trans e2).trans e3), h4, fun ρ4 v4 H4 e4 R4 d4 => ⟨ρ4, s4, y, w, d, st', R4, DR.ext R2 (e3.trans e4) _ _ d2, d4, h5, fun ρ5 v5 H5 e5 R5 d5 => ?_⟩⟩
        exact k ρ5 v5 H5 ((((e1.trans e2).trans e3).trans e4).trans e5) R5 d5
    | _ => cases hm3
end

/-! ### and, or, not, if -/
def bOf : D → M Bool
  | .bl b => pure b
  | _ => fail
theorem bOf_some {d : D} {st st' : S} {b : Bool} (h : bOf d st = some (b, st')) : d = .bl b ∧ st' = st := by
  cases d with
  | bl q => obtain ⟨rfl, rfl⟩ := pure_some h; exact ⟨rfl, rfl⟩
  | _ => cases h
def andD (a b : Es → M D) : Es → M D := fun es => do
  let x ← a es
  let q ← bOf x
  if q then b es else pure (.bl false)
def orD (a b : Es → M D) : Es → M D := fun es => do
  let x ← a es
  let q ← bOf x
  if q then pure (.bl true) else b es
def notD (a : Es → M D) : Es → M D := fun es => do
  let x ← a es
  let q ← bOf x
  pure (.bl (!q))
def tstD (a : Es → M D) : Es → M Bool := fun es => do
  let x ← a es
  bOf x
def andT (a b : Es → M Bool) : Es → M Bool := fun es => do
  let q ← a es
  if q then b es else pure false
def orT (a b : Es → M Bool) : Es → M Bool := fun es => do
  let q ← a es
  if q then pure true else b es
def notT (a : Es → M Bool) : Es → M Bool := fun es => do
  let q ← a es
  pure (!q)
def ifD {α : Type} (t : Es → M Bool) (a b : Es → M α) : Es → M α := fun es => do
  let q ← t es
  if q then a es else b es
section
variable {X : Cx} {pos p2 : Pos} {a b c : Expr} {rest : List Expr} {ma mb mc : Es → M D} {ta tb : Es → M Bool}
theorem mone {op} (h : PE X a (eM T X.K ma)) : PE X (.BoolOp op [a] pos) (eM T X.K ma) := pe_one h
theorem mand (ha : PE X a (eM T X.K ma)) (hb : PE X (.BoolOp .And (b :: rest) pos) (eM T X.K mb)) : PE X (.BoolOp .And (a :: b :: rest) pos) (eM T X.K (andD ma mb)) :=
  PE.as (pe_and ha hb) fun σ H Q h => by
    obtain ⟨ρ, st, es, d, st', R, E, hm, k⟩ := h
    obtain ⟨x, s1, h1, hm1⟩ := bind_some hm
    obtain ⟨q, s2, h2, hm2⟩ := bind_some hm1
    obtain ⟨rfl, rfl⟩ := bOf_some h2
    refine ⟨ρ, st, es, _, s2, R, E, h1, fun ρ1 v1 H1 e1 R1 d1 => ⟨q, d1.bl, ?_⟩⟩
    cases q with
    | true =>
      rw [if_pos rfl] at hm2 ⊢
      exact ⟨ρ1, s2, es, d, st', R1, E.ext R e1, hm2, fun ρ3 v3 H3 e3 R3 d3 => k ρ3 v3 H3 (e1.trans e3) R3 d3⟩
    | false =>
      rw [if_neg Bool.false_ne_true] at hm2 ⊢
      obtain ⟨rfl, rfl⟩ := pure_some hm2
      exact k ρ1 _ H1 e1 R1 (by rw [DR])
theorem mor (ha : PE X a (eM T X.K ma)) (hb : PE X (.BoolOp .Or (b :: rest) pos) (eM T X.K mb)) : PE X (.BoolOp .Or (a :: b :: rest) pos) (eM T X.K (orD ma mb)) :=
  PE.as (pe_or ha hb) fun σ H Q h => by
    obtain ⟨ρ, st, es, d, st', R, E, hm, k⟩ := h
    obtain ⟨x, s1, h1, hm1⟩ := bind_some hm
    obtain ⟨q, s2, h2, hm2⟩ := bind_some hm1
    obtain ⟨rfl, rfl⟩ := bOf_some h2
    refine ⟨ρ, st, es, _, s2, R, E, h1, fun ρ1 v1 H1 e1 R1 d1 => ⟨q, d1.bl, ?_⟩⟩
    cases q with
    | false =>
      rw [if_neg Bool.false_ne_true] at hm2 ⊢
      exact ⟨ρ1, s2, es, d, st', R1, E.ext R e1, hm2, fun ρ3 v3 H3 e3 R3 d3 => k ρ3 v3 H3 (e1.trans e3) R3 d3⟩
    | true =>
      rw [if_pos rfl] at hm2 ⊢
      obtain ⟨rfl, rfl⟩ := pure_some hm2
      exact k ρ1 _ H1 e1 R1 (by rw [DR])
theorem mnot (ha : PE X a (eM T X.K ma)) : PE X (.UnaryOp .Not a pos) (eM T X.K (notD ma)) :=
  PE.as (pe_not ha) fun σ H Q h => by
    obtain ⟨ρ, st, es, d, st', R, E, hm, k⟩ := h
    obtain ⟨x, s1, h1, hm1⟩ := bind_some hm
    obtain ⟨q, s2, h2, hm2⟩ := bind_some hm1
    obtain ⟨rfl, rfl⟩ := bOf_some h2
    obtain ⟨rfl, rfl⟩ := pure_some hm2
    exact ⟨ρ, st, es, _, _, R, E, h1, fun ρ1 v1 H1 e1 R1 d1 => ⟨q, d1.bl, k ρ1 _ H1 e1 R1 (by rw [DR])⟩⟩
theorem tst_of {K : PySem.W.Frag} {ma : Es → M D} {σ : St} {H : Hp} {Q : Bool → Hp → Prop} (h : tM T K (tstD ma) σ H Q) : eM T K ma σ H fun x H' => ∃ c, x = .bl c ∧ Q c H' := by
  obtain ⟨ρ, st, es, q, st', R, E, hm, k⟩ := h
  obtain ⟨x, s1, h1, h2⟩ := bind_some hm
  obtain ⟨rfl, rfl⟩ := bOf_some h2
  exact ⟨ρ, st, es, _, _, R, E, h1, fun ρ1 v1 H1 e1 R1 d1 => ⟨q, d1.bl, k ρ1 H1 e1 R1⟩⟩
/-- a bool's expression as a test -/
theorem mtst (h : PE X a (eM T X.K ma)) (he : ∀ whole, isTrue a X.env whole = (do let v ← whole; standAt a.pos; holding [v] (truthy v)) := by intro _; rfl) : PT X a (tM T X.K (tstD ma)) :=
  PT.as (pt_val h he) fun _ _ _ q => tst_of q
theorem mtcmp {op : CmpOp} {g : D → D → M D} (ho : OpR X (compareOp op) (r2M T X.K g)) (ha : PE X a (eM T X.K ma)) (hb : PE X b (eM T X.K mb)) (hm : behindInMarks op b = false := by first | exact nomark _ | with_unfolding_all rfl) : PT X (.Compare a [op] [b] pos) (tM T X.K (tstD (opD g ma mb))) :=
  PT.as (pt_cmpR ho ha hb hm) fun σ H Q q => two_of (fun _ _ _ _ q => q) (tst_of q)
theorem mtand1 (h : PT X a (tM T X.K ta)) : PW X (.BoolOp .And [a] pos) (tM T X.K ta) := pw_and1 h
theorem mtor1 (h : PT X a (tM T X.K ta)) : PW X (.BoolOp .Or [a] pos) (tM T X.K ta) := pw_or1 h
theorem mtand (ha : PT X a (tM T X.K ta)) (hb : PW X (.BoolOp .And (b :: rest) pos) (tM T X.K tb)) : PW X (.BoolOp .And (a :: b :: rest) pos) (tM T X.K (andT ta tb)) :=
  PW.as (pw_and ha hb) fun σ H Q h => by
    obtain ⟨ρ, st, es, q, st', R, E, hm, k⟩ := h
    obtain ⟨x, s1, h1, hm1⟩ := bind_some hm
    refine ⟨ρ, st, es, x, s1, R, E, h1, fun ρ1 H1 e1 R1 => ?_⟩
    cases x with
    | true =>
      rw [if_pos rfl] at hm1 ⊢
      exact ⟨ρ1, s1, es, q, st', R1, E.ext R e1, hm1, fun ρ3 H3 e3 R3 => k ρ3 H3 (e1.trans e3) R3⟩
    | false =>
      rw [if_neg Bool.false_ne_true] at hm1 ⊢
      obtain ⟨rfl, rfl⟩ := pure_some hm1
      exact k ρ1 H1 e1 R1
theorem mtor (ha : PT X a (tM T X.K ta)) (hb : PW X (.BoolOp .Or (b :: rest) pos) (tM T X.K tb)) : PW X (.BoolOp .Or (a :: b :: rest) pos) (tM T X.K (orT ta tb)) :=
  PW.as (pw_or ha hb) fun σ H Q h => by
    obtain ⟨ρ, st, es, q, st', R, E, hm, k⟩ := h
    obtain ⟨x, s1, h1, hm1⟩ := bind_some hm
    refine ⟨ρ, st, es, x, s1, R, E, h1, fun ρ1 H1 e1 R1 => ?_⟩
    cases x with
    | false =>
      rw [if_neg Bool.false_ne_true] at hm1 ⊢
      exact ⟨ρ1, s1, es, q, st', R1, E.ext R e1, hm1, fun ρ3 H3 e3 R3 => k ρ3 H3 (e1.trans e3) R3⟩
    | true =>
      rw [if_pos rfl] at hm1 ⊢
      obtain ⟨rfl, rfl⟩ := pure_some hm1
      exact k ρ1 H1 e1 R1
theorem mtnot (ha : PT X a (tM T X.K ta)) : PT X (.UnaryOp .Not a pos) (tM T X.K (notT ta)) :=
  PT.as (pt_not ha) fun σ H Q h => by
    obtain ⟨ρ, st, es, q, st', R, E, hm, k⟩ := h
    obtain ⟨x, s1, h1, hm1⟩ := bind_some hm
    obtain ⟨rfl, rfl⟩ := pure_some hm1
    exact ⟨ρ, st, es, _, _, R, E, h1, fun ρ1 H1 e1 R1 => k ρ1 H1 e1 R1⟩
theorem mif (hc : PT X c (tM T X.K ta)) (ha : PE X a (eM T X.K ma)) (hb : PE X b (eM T X.K mb)) : PE X (.IfExp c a b pos) (eM T X.K (ifD ta ma mb)) :=
  PE.as (pe_ifExp hc ha hb) fun σ H Q h => by
    obtain ⟨ρ, st, es, d, st', R, E, hm, k⟩ := h
    obtain ⟨q, s1, h1, hm2⟩ := bind_some hm
    refine ⟨ρ, st, es, q, s1, R, E, h1, fun ρ1 H1 e1 R1 => ?_⟩
    cases q with
    | true =>
      rw [if_pos rfl] at hm2 ⊢
      exact ⟨ρ1, s1, es, d, st', R1, E.ext R e1, hm2, fun ρ3 v3 H3 e3 R3 d3 => k ρ3 v3 H3 (e1.trans e3) R3 d3⟩
    | false =>
      rw [if_neg Bool.false_ne_true] at hm2 ⊢
      exact ⟨ρ1, s1, es, d, st', R1, E.ext R e1, hm2, fun ρ3 v3 H3 e3 R3 d3 => k ρ3 v3 H3 (e1.trans e3) R3 d3⟩
end

/-! ### argument lists, displays, calls -/
def nilA : Es → M (List D) := fun _ => pure []
def consA (a : Es → M D) (r : Es → M (List D)) : Es → M (List D) := fun es => do
  let x ← a es
  let xs ← r es
  pure (x :: xs)
theorem nilA_of {K : PySem.W.Frag} {σ : St} {H : Hp} {Q : List V → Hp → Prop} (h : aM T K nilA σ H Q) : tNil σ H Q := by
  obtain ⟨ρ, st, es, ds, st', R, E, hm, k⟩ := h
  obtain ⟨rfl, rfl⟩ := pure_some hm
  exact k ρ [] H (Ext.refl _ _) R DRs.nil
theorem consA_of {K : PySem.W.Frag} {σ : St} {H : Hp} {Q : List V → Hp → Prop} {ma : Es → M D} {mr : Es → M (List D)} (h : aM T K (consA ma mr) σ H Q) : tCons (eM T K ma) (aM T K mr) σ H Q := by
  obtain ⟨ρ, st, es, ds, st', R, E, hm, k⟩ := h
  obtain ⟨x, s1, h1, hm1⟩ := bind_some hm
  obtain ⟨xs, s2, h2, hm2⟩ := bind_some hm1
  obtain ⟨rfl, rfl⟩ := pure_some hm2
  exact ⟨ρ, st, es, x, s1, R, E, h1, fun ρ1 v1 H1 e1 R1 d1 => ⟨ρ1, s1, es, xs, _, R1, E.ext R e1, h2, fun ρ2 vs H2 e2 R2 d2 => k ρ2 _ H2 (e1.trans e2) R2 (DRs.cons (DR.ext R1 e2 _ _ d1) d2)⟩⟩
def tupD (a : Es → M (List D)) : Es → M D := fun es => do
  let xs ← a es
  guardM (decide (xs.length ≤ sizeLine))
  pure (.tup xs)
def lstD (a : Es → M (List D)) : Es → M D := fun es => do
  let xs ← a es
  guardM (decide (xs.length ≤ sizeLine))
  new (.lst xs)
/-- a call with values -/
def callD (g : List D → M D) (a : Es → M (List D)) : Es → M D := fun es => do
  let xs ← a es
  g xs
theorem call_of {K : PySem.W.Frag} {r : List V → Hp → VK → Prop} {g : List D → M D} (hr : ∀ xs H Q, rnM T K g xs H Q → r xs H Q) {a : Es → M (List D)} {σ : St} {H : Hp} {Q : VK} (h : eM T K (callD g a) σ H Q) : aM T K a σ H fun xs H1 => r xs H1 Q := by
  obtain ⟨ρ, st, es, d, st', R, E, hm, k⟩ := h
  obtain ⟨xs, s1, h1, h3⟩ := bind_some hm
  exact ⟨ρ, st, es, xs, s1, R, E, h1, fun ρ1 v1 H1 e1 R1 d1 => hr _ _ _ ⟨ρ1, s1, xs, d, st', R1, d1, h3, fun ρ3 v3 H3 e3 R3 d3 => k ρ3 v3 H3 (e1.trans e3) R3 d3⟩⟩
section
variable {X : Cx} {pos p : Pos} {e : Expr} {es : List Expr} {me : Es → M D} {ma : Es → M (List D)} {x : Str} {id C : String} {g : List D → M D}
theorem anil : PA X [] (aM T X.K nilA) := PA.as pa_nil fun _ _ _ h => nilA_of h
theorem acons (ha : PE X e (eM T X.K me)) (hr : PA X es (aM T X.K ma)) (hs : starEach (e :: es) X.env = (false, eval e X.env) :: starEach es X.env := by rfl) : PA X (e :: es) (aM T X.K (consA me ma)) :=
  PA.as (pa_cons ha hr hs) fun _ _ _ h => consA_of h
theorem knil : PK X [] (aM T X.K nilA) := PK.as pk_nil fun _ _ _ h => nilA_of h
theorem kcons {nm : Option Str} {kpos : Pos} {kws : List Keyword} (ha : PE X e (eM T X.K me)) (hr : PK X kws (aM T X.K ma)) : PK X (⟨nm, e, kpos⟩ :: kws) (aM T X.K (consA me ma)) :=
  PK.as (pk_cons ha hr) fun _ _ _ h => consA_of h
theorem mtup {x1} (h : PA X es (aM T X.K ma)) : PE X (.Tuple es x1 pos) (eM T X.K (tupD ma)) :=
  PE.as (pe_tup h) fun σ H Q q => by
    obtain ⟨ρ, st, es, d, st', R, E, hm, k⟩ := q
    obtain ⟨xs, s1, h1, h3⟩ := bind_some hm
    obtain ⟨hz, h4⟩ := guarded h3
    obtain ⟨rfl, rfl⟩ := pure_some h4
    exact ⟨ρ, st, es, xs, _, R, E, h1, fun ρ1 v1 H1 e1 R1 d1 => ⟨by rw [d1.length]; exact of_decide_eq_true hz, Post.tup R1 (fun ρ3 v3 H3 e3 R3 d3 => k ρ3 v3 H3 (e1.trans e3) R3 d3) d1⟩⟩
theorem mlst (h : PA X es (aM T X.K ma)) : PE X (.List es pos) (eM T X.K (lstD ma)) :=
  PE.as (pe_lst h) fun σ H Q q => by
    obtain ⟨ρ, st, es, d, st', R, E, hm, k⟩ := q
    obtain ⟨xs, s1, h1, h3⟩ := bind_some hm
    obtain ⟨hz, h4⟩ := guarded h3
    cases h4
    exact ⟨ρ, st, es, xs, _, R, E, h1, fun ρ1 v1 H1 e1 R1 d1 => ⟨by rw [d1.length]; exact of_decide_eq_true hz, Post.lst R1 (fun ρ3 v3 H3 e3 R3 d3 => k ρ3 v3 H3 (e1.trans e3) R3 d3) d1⟩⟩
theorem mcallB (hc : CallR X (.builtin id) (rnM T X.K g)) (hg : Gl X x) (hm : X.mg x = none) (hv : bootBuiltins x = some (.builtin id)) (ha : PA X (e :: es) (aM T X.K ma)) (hn : x ≠ "__name__" := by decide) (hdb : (x == ("__debug__" : Str)) = false := by decide)
    (he : starEach (e :: es) X.env = (false, eval e X.env) :: starEach es X.env := by rfl) (hpl : (backTo pos (starEach es X.env)).any (·.1) = false := by rfl) : PE X (.Call (.Name x p) (e :: es) [] pos) (eM T X.K (callD g ma)) :=
  PE.as (pe_callB hc hg hm hv ha hn hdb he hpl) fun _ _ _ h => call_of (fun _ _ _ q => q) h
theorem mcallT (hc : CallR X (.type C) (rnM T X.K g)) (hg : Gl X x) (hm : X.mg x = none) (hv : bootBuiltins x = some (.type C)) (ha : PA X (e :: es) (aM T X.K ma)) (hn : x ≠ "__name__" := by decide) (hdb : (x == ("__debug__" : Str)) = false := by decide)
    (he : starEach (e :: es) X.env = (false, eval e X.env) :: starEach es X.env := by rfl) (hpl : (backTo pos (starEach es X.env)).any (·.1) = false := by rfl) : PE X (.Call (.Name x p) (e :: es) [] pos) (eM T X.K (callD g ma)) :=
  PE.as (pe_callTy hc hg hm hv ha hn hdb he hpl) fun _ _ _ h => call_of (fun _ _ _ q => q) h
/-- what a def gives, by its arguments -/
def spM (T : List (Addr × Str)) (K : PySem.W.Frag) (g : List D → M D) : Sp := fun vs H Q _ => rnM T K g vs H Q
theorem mcall {k : Nat} {f : Addr} {fd : FuncData} {ps : List Str} (F : FnOk X.prog X.w X.K X.mg X.base CX0 k f fd ps (spM T X.K g)) (hr : Room k X.A) (hg : Gl X x) (hm : X.mg x = some (.ref f)) (hk : PySem.W.keepIn X.K (.ref f) = true) (hb : Binds X.K fd ps [])
    (ha : PA X (e :: es) (aM T X.K ma))
    (hdb : (x == ("__debug__" : Str)) = false := by decide) (he : starEach (e :: es) X.env = (false, eval e X.env) :: starEach es X.env := by rfl) (hpl : (backTo pos (starEach es X.env)).any (·.1) = false := by rfl) :
    PE X (.Call (.Name x p) (e :: es) [] pos) (eM T X.K (callD g ma)) :=
  PE.as (pe_call F hr hg hm hk hb .nil pass0 ha hdb he hpl) fun σ H Q h => call_of (r := fun xs H1 Q => spM T X.K g (xs ++ []) H1 Q E0) (fun xs H Q q => by rw [List.append_nil]; exact q) h
theorem mcall0 {k : Nat} {f : Addr} {fd : FuncData} {ps : List Str} (F : FnOk X.prog X.w X.K X.mg X.base CX0 k f fd ps (spM T X.K g)) (hr : Room k X.A) (hg : Gl X x) (hm : X.mg x = some (.ref f)) (hk : PySem.W.keepIn X.K (.ref f) = true) (hb : Binds X.K fd ps [])
    (hdb : (x == ("__debug__" : Str)) = false := by decide) : PE X (.Call (.Name x p) [] [] pos) (eM T X.K (callD g nilA)) :=
  PE.as (pe_call0 F hr hg hm hk hb .nil pass0 hdb) fun σ H Q h => nilA_of (call_of (r := fun xs H1 Q => spM T X.K g (xs ++ []) H1 Q E0) (fun xs H Q q => by rw [List.append_nil]; exact q) h)
/-- f(k = v, ..), by a permutation of the values -/
def callKD (g : List D → M D) (w : List D → List D) (a : Es → M (List D)) : Es → M D := fun es => do
  let xs ← a es
  g (w xs)
end

/-! ### slices -/
inductive Pt where | no | at (m : Es → M D)
def Pt.t (T : List (Addr × Str)) (K : PySem.W.Frag) : Pt → TO
  | .no => tNoPart
  | .at m => tPart (eM T K m)
def Pt.run : Pt → Es → M (Option Int)
  | .no, _ => pure none
  | .at m, es => do
    let x ← m es
    match x with
      | .int i => pure (some i)
      | _ => fail
def sliD (a : Es → M D) (lo hi : Pt) : Es → M D := fun es => do
  let x ← a es
  let l ← lo.run es
  let u ← hi.run es
  slD x l u
theorem Pt.of {K : PySem.W.Frag} {ρ : List Addr} {st s1 : S} {es : Es} {σ : St} {H : Hp} {Q : Option Int → Hp → Prop} {o : Option Int} (p : Pt) (R : Rel T K ρ H st) (E : ER K ρ H es σ) (h : p.run es st = some (o, s1))
    (k : ∀ (ρ' : List Addr) (H' : Hp), Ext ρ H ρ' H' → Rel T K ρ' H' s1 → Q o H') : p.t T K σ H Q := by
  cases p with
  | no =>
    obtain ⟨rfl, rfl⟩ := pure_some h
    exact k ρ H (Ext.refl _ _) R
  | «at» m =>
    obtain ⟨x, s2, h1, h2⟩ := bind_some h
    refine ⟨ρ, st, es, x, s2, R, E, h1, fun ρ1 v1 H1 e1 R1 d1 => ?_⟩
    cases x with
    | int i =>
      obtain ⟨rfl, rfl⟩ := pure_some h2
      exact ⟨i, d1.int, k ρ1 H1 e1 R1⟩
    | _ => cases h2
section
variable {X : Cx} {pos p2 : Pos} {e : Expr} {lo hi : Option Expr} {me : Es → M D} {ml mh : Pt}
theorem ponone : PO X none ((Pt.no).t T X.K) := po_none
theorem posome {m : Es → M D} (h : PE X e (eM T X.K m)) : PO X (some e) ((Pt.at m).t T X.K) := po_some h
theorem mslice (he : PE X e (eM T X.K me)) (hl : PO X lo (ml.t T X.K)) (hu : PO X hi (mh.t T X.K)) : PE X (.Subscript e (.Slice lo hi none p2) pos) (eM T X.K (sliD me ml mh)) :=
  PE.as (pe_slice slM he hl hu) fun σ H Q q => by
    obtain ⟨ρ, st, es, d, st', R, E, hm, k⟩ := q
    obtain ⟨x, s1, h1, hm1⟩ := bind_some hm
    obtain ⟨l, s2, h2, hm2⟩ := bind_some hm1
    obtain ⟨u, s3, h3, h4⟩ := bind_some hm2
    exact ⟨ρ, st, es, x, s1, R, E, h1, fun ρ1 v1 H1 e1 R1 d1 => ml.of R1 (E.ext R e1) h2 fun ρ2 H2 e2 R2 => mh.of R2 (E.ext R (e1.trans e2)) h3 fun ρ3 H3 e3 R3 =>
      ⟨ρ3, s3, x, d, st', R3, DR.ext R1 (e2.trans e3) _ _ d1, h4, fun ρ4 v4 H4 e4 R4 d4 => k ρ4 v4 H4 (((e1.trans e2).trans e3).trans e4) R4 d4⟩⟩
end
end Mx


/-! Mx7: statements by the store: targets, loops, comprehensions. -/
namespace Mx
open PySem PySem.Spec L2
variable {T : List (Addr × Str)}

/-- how a statement ends -/
inductive Fl where
  | nx | bk | ct | rt (d : D)
  deriving Inhabited
def Done (T : List (Addr × Str)) (K : PySem.W.Frag) (ρ : List Addr) (H : Hp) (es : Es) (st : S) (E : Ends) : Fl → Prop
  | .nx => ∀ (ρ' : List Addr) (σ' : St) (H' : Hp), Ext ρ H ρ' H' → Rel T K ρ' H' st → ER K ρ' H' es σ' → E.nx σ' H'
  | .bk => ∀ (ρ' : List Addr) (σ' : St) (H' : Hp), Ext ρ H ρ' H' → Rel T K ρ' H' st → ER K ρ' H' es σ' → E.bk σ' H'
  | .ct => ∀ (ρ' : List Addr) (σ' : St) (H' : Hp), Ext ρ H ρ' H' → Rel T K ρ' H' st → ER K ρ' H' es σ' → E.ct σ' H'
  | .rt d => Post T K ρ H st d E.rt
theorem Done.from {K : PySem.W.Frag} {ρ ρ1 : List Addr} {H H1 : Hp} {es : Es} {st : S} {E : Ends} {f : Fl} (h : Done T K ρ H es st E f) (e : Ext ρ H ρ1 H1) : Done T K ρ1 H1 es st E f := by
  cases f with
  | nx => exact fun ρ' σ' H' e2 => h ρ' σ' H' (e.trans e2)
  | bk => exact fun ρ' σ' H' e2 => h ρ' σ' H' (e.trans e2)
  | ct => exact fun ρ' σ' H' e2 => h ρ' σ' H' (e.trans e2)
  | rt d => exact fun ρ' v H' e2 => h ρ' v H' (e.trans e2)
def sM (T : List (Addr × Str)) (K : PySem.W.Frag) (m : Es → M (Es × Fl)) : TS := fun E σ H => ∃ (ρ : List Addr) (st : S) (es es' : Es) (f : Fl) (st' : S), Rel T K ρ H st ∧ ER K ρ H es σ ∧ m es st = some ((es', f), st') ∧ Done T K ρ H es' st' E f
def gM (T : List (Addr × Str)) (K : PySem.W.Frag) (g : D → Es → M Es) : TG := fun v σ H Q => ∃ (ρ : List Addr) (st : S) (es : Es) (d : D) (es' : Es) (st' : S), Rel T K ρ H st ∧ ER K ρ H es σ ∧ DR K ρ H d v ∧ g d es st = some (es', st') ∧
  ∀ (ρ' : List Addr) (σ' : St) (H' : Hp), Ext ρ H ρ' H' → Rel T K ρ' H' st' → ER K ρ' H' es' σ' → Q σ' H'
def gsM (T : List (Addr × Str)) (K : PySem.W.Frag) (g : List D → Es → M Es) : TGs := fun vs σ H Q => ∃ (ρ : List Addr) (st : S) (es : Es) (ds : List D) (es' : Es) (st' : S), Rel T K ρ H st ∧ ER K ρ H es σ ∧ DRs K ρ H ds vs ∧ g ds es st = some (es', st') ∧
  ∀ (ρ' : List Addr) (σ' : St) (H' : Hp), Ext ρ H ρ' H' → Rel T K ρ' H' st' → ER K ρ' H' es' σ' → Q σ' H'
section
variable {X : Cx}
theorem PS.as {e : Stmt} {t t' : TS} (h : PS X e t) (i : ∀ E σ H, t' E σ H → t E σ H) : PS X e t' := ⟨fun pins s σ H E I q => h.run pins s σ H E I (i E σ H q)⟩
theorem PSs.as {e : List Stmt} {t t' : TS} (h : PSs X e t) (i : ∀ E σ H, t' E σ H → t E σ H) : PSs X e t' := ⟨fun pins s σ H E I q => h.run pins s σ H E I (i E σ H q)⟩
theorem PG.as {e : Expr} {t t' : TG} (h : PG X e t) (i : ∀ v σ H Q, t' v σ H Q → t v σ H Q) : PG X e t' := ⟨fun pins s σ H v u Q I r q => h.run pins s σ H v u Q I r (i v σ H Q q)⟩
theorem PGs.as {e : List Expr} {t t' : TGs} (h : PGs X e t) (i : ∀ v σ H Q, t' v σ H Q → t v σ H Q) : PGs X e t' := ⟨fun pins s σ H v u Q I r q => h.run pins s σ H v u Q I r (i v σ H Q q)⟩
end

/-! ### suites -/
def nxS : Es → M (Es × Fl) := fun es => pure (es, .nx)
def bkS : Es → M (Es × Fl) := fun es => pure (es, .bk)
def ctS : Es → M (Es × Fl) := fun es => pure (es, .ct)
def seqS (a b : Es → M (Es × Fl)) : Es → M (Es × Fl) := fun es => do
  let p ← a es
  match p.2 with
    | .nx => b p.1
    | _ => pure p
def retS (a : Es → M D) : Es → M (Es × Fl) := fun es => do
  let x ← a es
  pure (es, .rt x)
def dropS (a : Es → M D) : Es → M (Es × Fl) := fun es => do
  let _ ← a es
  pure (es, .nx)
def asgS (a : Es → M D) (g : D → Es → M Es) : Es → M (Es × Fl) := fun es => do
  let x ← a es
  let es' ← g x es
  pure (es', .nx)
theorem some_mk {α : Type} {a b : α} {s t : S} (h : some (a, s) = some (b, t)) : b = a ∧ t = s := by cases h; exact ⟨rfl, rfl⟩
theorem pair_some {es es' : Es} {f f' : Fl} {st st' : S} (h : (pure (es, f) : M (Es × Fl)) st = some ((es', f'), st')) : es' = es ∧ f' = f ∧ st' = st := by
  obtain ⟨h1, h2⟩ := pure_some h
  cases h1
  exact ⟨rfl, rfl, h2⟩
section
variable {X : Cx} {pos : Pos} {s0 : Stmt} {rest a b : List Stmt} {e c tg : Expr} {me : Es → M D} {m1 m2 : Es → M (Es × Fl)} {tc : Es → M Bool} {g : D → Es → M Es}
theorem snil : PSs X [] (sM T X.K nxS) := PSs.as pss_nil fun E σ H h => by
  obtain ⟨ρ, st, es, es', f, st', R, Er, hm, k⟩ := h
  obtain ⟨rfl, rfl, rfl⟩ := pair_some hm
  exact k ρ σ H (Ext.refl _ _) R Er
theorem spass : PS X (.Pass pos) (sM T X.K nxS) := PS.as ps_pass fun E σ H h => by
  obtain ⟨ρ, st, es, es', f, st', R, Er, hm, k⟩ := h
  obtain ⟨rfl, rfl, rfl⟩ := pair_some hm
  exact k ρ σ H (Ext.refl _ _) R Er
theorem sbreak : PS X (.Break pos) (sM T X.K bkS) := PS.as ps_break fun E σ H h => by
  obtain ⟨ρ, st, es, es', f, st', R, Er, hm, k⟩ := h
  obtain ⟨rfl, rfl, rfl⟩ := pair_some hm
  exact k ρ σ H (Ext.refl _ _) R Er
theorem scont : PS X (.Continue pos) (sM T X.K ctS) := PS.as ps_continue fun E σ H h => by
  obtain ⟨ρ, st, es, es', f, st', R, Er, hm, k⟩ := h
  obtain ⟨rfl, rfl, rfl⟩ := pair_some hm
  exact k ρ σ H (Ext.refl _ _) R Er
theorem seq_done {K : PySem.W.Frag} {ρ : List Addr} {H : Hp} {es1 es' : Es} {f1 f : Fl} {s1 st' : S} {E : Ends} {t : TS} (h : (match f1 with | .nx => m2 es1 | _ => pure (es1, f1)) s1 = some ((es', f), st')) (k : Done T K ρ H es' st' E f)
    (ht : ∀ E σ H, sM T K m2 E σ H → t E σ H) : Done T K ρ H es1 s1 { E with nx := t E } f1 := by
  cases f1 with
  | nx => exact fun ρ' σ' H' e R Er => ht _ _ _ ⟨ρ', s1, es1, es', f, st', R, Er, h, k.from e⟩
  | bk => obtain ⟨rfl, rfl, rfl⟩ := pair_some h; exact k
  | ct => obtain ⟨rfl, rfl, rfl⟩ := pair_some h; exact k
  | rt d => obtain ⟨rfl, rfl, rfl⟩ := pair_some h; exact k
theorem scons (h1 : PS X s0 (sM T X.K m1)) (h2 : PSs X rest (sM T X.K m2)) : PSs X (s0 :: rest) (sM T X.K (seqS m1 m2)) :=
  PSs.as (pss_cons h1 h2) fun E σ H h => by
    obtain ⟨ρ, st, es, es', f, st', R, Er, hm, k⟩ := h
    obtain ⟨⟨es1, f1⟩, s1, h3, h4⟩ := bind_some hm
    exact ⟨ρ, st, es, es1, f1, s1, R, Er, h3, seq_done h4 k fun _ _ _ q => q⟩
theorem sone (h1 : PS X s0 (sM T X.K m1)) : PSs X [s0] (sM T X.K m1) := pss_one h1
theorem sdoc {x j pos'} : PS X (.Expr (.Constant (.str x) j pos) pos') (sM T X.K nxS) := PS.as ps_doc fun E σ H h => by
  obtain ⟨ρ, st, es, es', f, st', R, Er, hm, k⟩ := h
  obtain ⟨rfl, rfl, rfl⟩ := pair_some hm
  exact k ρ σ H (Ext.refl _ _) R Er
theorem sret (he : PE X e (eM T X.K me)) : PS X (.Return (some e) pos) (sM T X.K (retS me)) := PS.as (ps_ret he) fun E σ H h => by
  obtain ⟨ρ, st, es, es', f, st', R, Er, hm, k⟩ := h
  obtain ⟨x, s1, h1, h2⟩ := bind_some hm
  obtain ⟨rfl, rfl, rfl⟩ := pair_some h2
  exact ⟨ρ, st, _, x, _, R, Er, h1, k⟩
theorem sdrop (he : PE X e (eM T X.K me)) (hs : swapsWith e none pos.line X.env = pure false := by rfl) : PS X (.Expr e pos) (sM T X.K (dropS me)) := PS.as (ps_expr he hs) fun E σ H h => by
  obtain ⟨ρ, st, es, es', f, st', R, Er, hm, k⟩ := h
  obtain ⟨x, s1, h1, h2⟩ := bind_some hm
  obtain ⟨rfl, rfl, rfl⟩ := pair_some h2
  exact ⟨ρ, st, _, x, _, R, Er, h1, fun ρ1 v1 H1 e1 R1 d1 => k ρ1 σ H1 e1 R1 (Er.ext R e1)⟩
theorem sif (hc : PT X c (tM T X.K tc)) (ha : PSs X a (sM T X.K m1)) (hb : PSs X b (sM T X.K m2)) : PS X (.If c a b pos) (sM T X.K (ifD tc m1 m2)) := PS.as (ps_if hc ha hb) fun E σ H h => by
  obtain ⟨ρ, st, es, es', f, st', R, Er, hm, k⟩ := h
  obtain ⟨q, s1, h1, h2⟩ := bind_some hm
  refine ⟨ρ, st, es, q, s1, R, Er, h1, fun ρ1 H1 e1 R1 => ?_⟩
  cases q with
  | true =>
    rw [if_pos rfl] at h2 ⊢
    exact ⟨ρ1, s1, es, es', f, st', R1, Er.ext R e1, h2, k.from e1⟩
  | false =>
    rw [if_neg Bool.false_ne_true] at h2 ⊢
    exact ⟨ρ1, s1, es, es', f, st', R1, Er.ext R e1, h2, k.from e1⟩
theorem asg_of {K : PySem.W.Frag} {E : Ends} {σ : St} {H : Hp} (h : sM T K (asgS me g) E σ H) : tAsg (eM T K me) (gM T K g) E σ H := by
  obtain ⟨ρ, st, es, es', f, st', R, Er, hm, k⟩ := h
  obtain ⟨x, s1, h1, h2⟩ := bind_some hm
  obtain ⟨es1, s2, h3, h4⟩ := bind_some h2
  obtain ⟨rfl, rfl, rfl⟩ := pair_some h4
  exact ⟨ρ, st, es, x, s1, R, Er, h1, fun ρ1 v1 H1 e1 R1 d1 => ⟨ρ1, s1, es, x, _, _, R1, Er.ext R e1, d1, h3, fun ρ2 σ2 H2 e2 => k ρ2 σ2 H2 (e1.trans e2)⟩⟩
theorem sasg (he : PE X e (eM T X.K me)) (hg : PG X tg (gM T X.K g)) (hs : swapsWithSole [tg] e pos.line X.env = pure false := by rfl) (hw : swappedStores [tg] e X.env = pure none := by rfl)
    (h1 : (assignEach [tg] X.env).map (·.2) = [assign tg X.env] := by rfl) : PS X (.Assign [tg] e pos) (sM T X.K (asgS me g)) := PS.as (ps_asg he hg hs hw h1) fun _ _ _ h => asg_of h

/-! ### targets -/
def nameG (i : Nat) : D → Es → M Es := fun d es => pure (es.set i (some d))
theorem gname_of {K : PySem.W.Frag} {i : Nat} {v : V} {σ : St} {H : Hp} {Q : St → Hp → Prop} (h : gM T K (nameG i) v σ H Q) : gName i v σ H Q := by
  obtain ⟨ρ, st, es, d, es', st', R, Er, hd, hm, k⟩ := h
  obtain ⟨rfl, rfl⟩ := pure_some hm
  exact k ρ _ H (Ext.refl _ _) R (Er.set hd)
theorem gname (i : Nat) {x : Str} (hN : X.N.Nodup) (hi : X.N[i]? = some x := by rfl) (hx : Loc X.env.scope x := by first | exact Or.inl rfl | exact Or.inr rfl) (hf : X.fn x = true ∨ X.env.scope.names.lookup x = some .local := by first | exact .inl rfl | exact .inr rfl) :
    PG X (.Name x pos) (gM T X.K (nameG i)) := PG.as (pg_name hN hi hx hf) fun _ _ _ _ h => gname_of h
theorem sset (i : Nat) {x : Str} {pos' : Pos} (hN : X.N.Nodup) (he : PE X e (eM T X.K me)) (hi : X.N[i]? = some x := by rfl) (hx : Loc X.env.scope x := by first | exact Or.inl rfl | exact Or.inr rfl) (hs : swapsWith e (some (.Name x pos')) pos.line X.env = pure false := by rfl)
    (hf : X.fn x = true ∨ X.env.scope.names.lookup x = some .local := by first | exact .inl rfl | exact .inr rfl) : PS X (.Assign [.Name x pos'] e pos) (sM T X.K (asgS me (nameG i))) :=
  PS.as (ps_set hN hi hx he hs hf) fun E σ H h => by
    obtain ⟨ρ, st, es, d, st', R, Er, hm, k⟩ := asg_of h
    exact ⟨ρ, st, es, d, st', R, Er, hm, fun ρ1 v1 H1 e1 R1 d1 => gname_of (k ρ1 v1 H1 e1 R1 d1)⟩
def nilG : List D → Es → M Es
  | [], es => pure es
  | _ :: _, _ => fail
def consG (g : D → Es → M Es) (r : List D → Es → M Es) : List D → Es → M Es
  | d :: ds, es => do
    let es1 ← g d es
    r ds es1
  | [], _ => fail
theorem gnil : PGs X [] (gsM T X.K nilG) := PGs.as pgs_nil fun vs σ H Q h => by
  obtain ⟨ρ, st, es, ds, es', st', R, Er, hd, hm, k⟩ := h
  cases ds with
  | nil =>
    obtain ⟨rfl, rfl⟩ := pure_some hm
    rw [DRs] at hd
    exact ⟨hd, k ρ σ H (Ext.refl _ _) R Er⟩
  | cons d r => cases hm
theorem gcons {es : List Expr} {r : List D → Es → M Es} (h1 : PG X e (gM T X.K g)) (h2 : PGs X es (gsM T X.K r))
    (hs : (assignEach (e :: es) X.env).map (·.2) = assign e X.env :: (assignEach es X.env).map (·.2) := by rfl) : PGs X (e :: es) (gsM T X.K (consG g r)) := PGs.as (pgs_cons h1 h2 hs) fun vs σ H Q h => by
  obtain ⟨ρ, st, es, ds, es', st', R, Er, hd, hm, k⟩ := h
  cases ds with
  | nil => cases hm
  | cons d ds =>
    rw [DRs] at hd
    obtain ⟨v, w, rfl, d1, d2⟩ := hd
    obtain ⟨es1, s1, h3, h4⟩ := bind_some hm
    exact ⟨v, w, rfl, ρ, st, es, d, es1, s1, R, Er, d1, h3, fun ρ1 σ1 H1 e1 R1 Er1 => ⟨ρ1, s1, es1, ds, es', st', R1, Er1, DRs.ext R e1 _ _ d2, h4, fun ρ2 σ2 H2 e2 => k ρ2 σ2 H2 (e1.trans e2)⟩⟩
def tupG (n : Nat) (g : List D → Es → M Es) : D → Es → M Es
  | .tup ds, es => do
    guardM (decide (ds.length = n))
    g ds es
  | _, _ => fail
theorem gtup {es : List Expr} {k : Nat} {gs : List D → Es → M Es} {n : Nat} (hc : X.calm = true) (h : PGs X es (gsM T X.K gs))
    (hn : (assignEach es X.env).length = n := by rfl) (hst : (assignEach es X.env).findIdx? (·.1) = none := by rfl) : PG X (.Tuple es k pos) (gM T X.K (tupG n gs)) := PG.as (pg_tup hc h hn hst) fun v σ H Q h => by
  obtain ⟨ρ, st, es, d, es', st', R, Er, hd, hm, k⟩ := h
  cases d with
  | tup ds =>
    obtain ⟨hz, hm2⟩ := guarded hm
    obtain ⟨a, vs, rfl, q1, q2⟩ := hd.tup
    exact ⟨a, vs, rfl, q1, by rw [q2.length]; exact of_decide_eq_true hz, ρ, st, es, ds, es', st', R, Er, q2, hm2, k⟩
  | _ => cases hm
/-- a, b = x, y -/
def parS (i j : Nat) (a : Es → M (List D)) : Es → M (Es × Fl) := fun es => do
  let ds ← a es
  match ds with
    | [x, y] => pure ((es.set i (some x)).set j (some y), .nx)
    | _ => fail
theorem spar (i j : Nat) {x y : Str} {a b : Expr} {ma : Es → M (List D)} {px py pt : Pos} {kt k2 pt2} (hc : X.calm = true) (hN : X.N.Nodup) (ha : PA X [a, b] (aM T X.K ma)) (hij : i ≠ j := by decide) (hi : X.N[i]? = some x := by rfl) (hj : X.N[j]? = some y := by rfl)
    (hx : X.env.scope.names.lookup x = some .local := by rfl) (hy : X.env.scope.names.lookup y = some .local := by rfl)
    (hw : swappedStores [.Tuple [.Name x px, .Name y py] kt pt] (.Tuple [a, b] k2 pt2) X.env = pure (some [x, y]) := by rfl)
    (hs : swapsWithSole [.Tuple [.Name x px, .Name y py] kt pt] (.Tuple [a, b] k2 pt2) pos.line X.env = pure false := by rfl) :
    PS X (.Assign [.Tuple [.Name x px, .Name y py] kt pt] (.Tuple [a, b] k2 pt2) pos) (sM T X.K (parS i j ma)) := PS.as (ps_par hc hN hi hj hij hx hy ha hw hs) fun E σ H h => by
  obtain ⟨ρ, st, es, es', f, st', R, Er, hm, k⟩ := h
  obtain ⟨ds, s1, h1, h2⟩ := bind_some hm
  refine ⟨ρ, st, es, ds, s1, R, Er, h1, fun ρ1 vs H1 e1 R1 d1 => ?_⟩
  match ds, h2, d1 with
  | [x, y], h2, d1 =>
    obtain ⟨rfl, rfl, rfl⟩ := pair_some h2
    obtain ⟨v, w, rfl, q1, q2⟩ := d1.two
    exact ⟨v, w, rfl, k ρ1 _ H1 e1 R1 (((Er.ext R e1).set q1).set q2)⟩
  | [], h2, _ => cases h2
  | [_], h2, _ => cases h2
  | _ :: _ :: _ :: _, h2, _ => cases h2

/-! ### o[i] = v -/
def dicPut (n : Nat) (kvs : List (Key × D)) (i d : D) : M Unit := fun st => match keyD i with
  | some k => if kvs.length < sizeLine then some ((), st.set n (.dic (put kvs k d))) else none
  | none => none
def ditPut (n : Nat) (kvs : List (List Key × D)) (i d : D) : M Unit := fun st => match keysD i with
  | some k => if kvs.length < sizeLine then some ((), st.set n (.dit (put kvs k d))) else none
  | none => none
def setRef (n : Nat) (i d : D) : M Unit := fun st => match st[n]? with
  | some (.dic kvs) => dicPut n kvs i d st
  | some (.dit kvs) => ditPut n kvs i d st
  | _ => none
def setD : D → D → D → M Unit
  | .ref n, i, d => setRef n i d
  | _, _, _ => fail
def subG (o i : Es → M D) : D → Es → M Es := fun d es => do
  let x ← o es
  let y ← i es
  setD x y d
  pure es
def rsetM (T : List (Addr × Str)) (K : PySem.W.Frag) : TSet := fun o i v H Q => ∃ (ρ : List Addr) (st : S) (a b d : D) (st' : S), Rel T K ρ H st ∧ DR K ρ H a o ∧ DR K ρ H b i ∧ DR K ρ H d v ∧ setD a b d st = some ((), st') ∧ ∀ (ρ' : List Addr) (H' : Hp), Ext ρ H ρ' H' → Rel T K ρ' H' st' → Q H'
theorem setM (hu : X.A.units + 1 < cLine) : PSet X (rsetM T X.K) := by
  intro pins s σ H o i v ov iv u Q I ro ri rv ⟨ρ, st, a, b, d, st', R, ha, hb, hd, hm, k⟩
  cases a with
  | ref n =>
    have hm1 : setRef n b d st = some ((), st') := hm
    unfold setRef at hm1
    split at hm1
    · rename_i kvs hn
      obtain ⟨p, ws, rfl, hp, q1, q2⟩ := R.dic ha hn
      unfold dicPut at hm1
      cases hk : keyD b with
      | none => rw [hk] at hm1; cases hm1
      | some ky =>
        rw [hk] at hm1
        dsimp only at hm1
        split at hm1
        · rename_i hz
          cases hm1
          have e := keyD_of hb hk
          subst e
          refine set_dict hu pins s σ H _ _ v ov iv u Q I ro ri rv ⟨p, _, rfl, DPut.k q1 (by rw [q2.length]; exact hz), ?_⟩
          exact k ρ _ (Ext.put R hp) (R.put hp fun H' e x => ⟨_, e, (KR.ext R x _ _ q2).put ky (DR.ext R x _ _ hd)⟩)
        · cases hm1
    · rename_i kvs hn
      obtain ⟨p, ws, rfl, hp, q1, q2⟩ := R.dit ha hn
      unfold ditPut at hm1
      cases hk : keysD b with
      | none => rw [hk] at hm1; cases hm1
      | some ky =>
        rw [hk] at hm1
        dsimp only at hm1
        split at hm1
        · rename_i hz
          cases hm1
          obtain ⟨q, rfl, e⟩ := keysD_of hb hk
          refine set_dict hu pins s σ H _ _ v ov iv u Q I ro ri rv ⟨p, _, rfl, DPut.t q1 e (by rw [q2.length]; exact hz), ?_⟩
          exact k ρ _ (Ext.put R hp) (R.put hp fun H' e x => ⟨_, e, (KR.ext R x _ _ q2).put ky (DR.ext R x _ _ hd)⟩)
        · cases hm1
    · cases hm1
  | _ => cases hm
theorem gsub {o i : Expr} {mo mi : Es → M D} (hu : X.A.units + 1 < cLine) (ho : PE X o (eM T X.K mo)) (hi : PE X i (eM T X.K mi))
    (ha : ∀ v, assign (.Subscript o i pos) X.env v = (do
      let ov ← holding [v] (eval o X.env)
      let iv ← holding [v, ov] (eval i X.env)
      standAt pos
      holding [v, ov, iv] (setItem ov iv v)
      release [v, ov, iv] []) := by intro _; rfl) : PG X (.Subscript o i pos) (gM T X.K (subG mo mi)) := PG.as (pg_sub ho hi (setM hu) ha) fun v σ H Q h => by
  obtain ⟨ρ, st, es, d, es', st', R, Er, hd, hm, k⟩ := h
  obtain ⟨x, s1, h1, hm1⟩ := bind_some hm
  obtain ⟨y, s2, h2, hm2⟩ := bind_some hm1
  obtain ⟨_, s3, h3, hm3⟩ := bind_some hm2
  obtain ⟨rfl, rfl⟩ := pure_some hm3
  exact ⟨ρ, st, _, x, s1, R, Er, h1, fun ρ1 v1 H1 e1 R1 d1 => ⟨ρ1, s1, _, y, s2, R1, Er.ext R e1, h2, fun ρ2 v2 H2 e2 R2 d2 => ⟨ρ2, s2, x, y, d, _, R2, DR.ext R1 e2 _ _ d1, d2, DR.ext R (e1.trans e2) _ _ hd, h3, fun ρ3 H3 e3 R3 =>
    k ρ3 σ H3 ((e1.trans e2).trans e3) R3 (Er.ext R ((e1.trans e2).trans e3))⟩⟩⟩
end
end Mx


/-! Mx8: what loops and comprehensions walk; for, while, list comprehensions by the store. -/
namespace Mx
open PySem PySem.Spec L2
variable {T : List (Addr × Str)}

/-! ### a list that is being made stands beside the store -/
/-- tuples and locked things stay; the store may grow -/
structure Mv (ρ : List Addr) (H : Hp) (ρ' : List Addr) (H' : Hp) : Prop where
  pre : ρ <+: ρ'
  tups : ∀ a xs, H a = some (.tup xs) → H' a = some (.tup xs)
  frzs : ∀ a ob u, H a = some (.frz ob u) → H' a = some (.frz ob u)
section
variable {K : PySem.W.Frag} {ρ ρ' : List Addr} {H H' : Hp} {st : S} {p : Addr} {acc acc' : List V}
theorem Mv.get (e : Mv ρ H ρ' H') {i : Nat} {a : Addr} (h : ρ[i]? = some a) : ρ'[i]? = some a := by
  obtain ⟨t, rfl⟩ := e.pre
  have hi := (List.getElem?_eq_some_iff.mp h).1
  rw [List.getElem?_append_left hi]; exact h
theorem Mv.side (h : H p = some (.lst acc)) : Mv ρ H ρ (upd H p (.lst acc')) :=
  ⟨List.prefix_refl _, fun a xs q => by rw [upd_ne (ne_of q h fun z => nomatch z)]; exact q, fun a ob u q => by rw [upd_ne (ne_of q h fun z => nomatch z)]; exact q⟩
theorem Mv.more : Mv ρ H (ρ ++ [p]) H := ⟨List.prefix_append _ _, fun _ _ q => q, fun _ _ _ q => q⟩
theorem SqT.mv (m : Mv ρ H ρ' H') {a : Addr} {xs : List V} (q : SqT K H a xs) : SqT K H' a xs := by
  rcases q with (q | ⟨o, q⟩) | q
  · exact .inl (.inl (m.tups _ _ q))
  · exact .inl (.inr ⟨o, m.frzs _ _ _ q⟩)
  · exact .inr q
theorem RoL.mv (m : Mv ρ H ρ' H') {a : Addr} {xs : List V} (q : RoL K H a xs) : RoL K H' a xs := by
  rcases q with ⟨o, q⟩ | q
  · exact .inl ⟨o, m.frzs _ _ _ q⟩
  · exact .inr q
mutual
theorem DR.mv (m : Mv ρ H ρ' H') : ∀ (d : D) (v : V), DR K ρ H d v → DR K ρ' H' d v
  | .non, _, q => by rw [DR] at q ⊢; exact q
  | .bl _, _, q => by rw [DR] at q ⊢; exact q
  | .int _, _, q => by rw [DR] at q ⊢; exact q
  | .str _, _, q => by rw [DR] at q ⊢; exact q
  | .ty _, _, q => by rw [DR] at q ⊢; exact q
  | .ref _, _, q => by rw [DR] at q ⊢; obtain ⟨a, h1, h2⟩ := q; exact ⟨a, h1, m.get h2⟩
  | .tup ds, _, q => by rw [DR] at q ⊢; obtain ⟨a, vs, h1, h2, h3⟩ := q; exact ⟨a, vs, h1, m.tups _ _ h2, DRs.mv m ds vs h3⟩
  | .rot ds, _, q => by rw [DR] at q ⊢; obtain ⟨a, vs, h1, h2, h3⟩ := q; exact ⟨a, vs, h1, SqT.mv m h2, DRs.mv m ds vs h3⟩
  | .rol ds, _, q => by rw [DR] at q ⊢; obtain ⟨a, vs, h1, h2, h3⟩ := q; exact ⟨a, vs, h1, RoL.mv m h2, DRs.mv m ds vs h3⟩
theorem DRs.mv (m : Mv ρ H ρ' H') : ∀ (ds : List D) (vs : List V), DRs K ρ H ds vs → DRs K ρ' H' ds vs
  | [], _, q => by rw [DRs] at q ⊢; exact q
  | d :: ds, _, q => by
    rw [DRs] at q ⊢
    obtain ⟨v, r, h1, h2, h3⟩ := q
    exact ⟨v, r, h1, DR.mv m d v h2, DRs.mv m ds r h3⟩
end
theorem KR.mv {κ : Type} (m : Mv ρ H ρ' H') : ∀ (ps : List (κ × D)) (ws : List (κ × V)), KR K ρ H ps ws → KR K ρ' H' ps ws
  | [], _, q => q
  | _ :: ps, _, ⟨q, r, h1, h2, h3, h4⟩ => ⟨q, r, h1, h2, DR.mv m _ _ h3, KR.mv m ps r h4⟩
theorem OR.mv (m : Mv ρ H ρ' H') {a : Addr} {o : O} (hk : H' a = H a) (q : OR K ρ H a o) : OR K ρ' H' a o := by
  cases o with
  | lst ds => obtain ⟨vs, h1, g⟩ := q; exact ⟨vs, hk.trans h1, DRs.mv m _ _ g⟩
  | dic kvs => obtain ⟨ws, h1, g⟩ := q; exact ⟨ws, hk.trans h1, KR.mv m _ _ g⟩
  | dit kvs => obtain ⟨ws, h1, g⟩ := q; exact ⟨ws, hk.trans h1, KR.mv m _ _ g⟩
  | dif kvs => obtain ⟨ob, ws, h1, g⟩ := q; exact ⟨ob, ws, hk.trans h1, KR.mv m _ _ g⟩
theorem Rel.side (R : Rel T K ρ H st) (h : H p = some (.lst acc)) (hp : p ∉ ρ) : Rel T K ρ (upd H p (.lst acc')) st :=
  ⟨Tabs.mv R.tab fun b u e n => by rw [upd_ne (fun z => by subst z; rw [h] at e; cases e; exact n (.inl ⟨_, rfl⟩))]; exact e, R.len, R.nd, fun i a o hi ho => (R.obj i a o hi ho).mv (Mv.side h) (upd_ne fun z => hp (z ▸ List.mem_of_getElem? hi))⟩
theorem Ext.any {u : HO} (h : H p = none) : Ext ρ H ρ (upd H p u) := Ext.fresh h
theorem Rel.any (R : Rel T K ρ H st) {u : HO} (h : H p = none) : Rel T K ρ (upd H p u) st := by
  refine ⟨Tabs.fresh R.tab h, R.len, R.nd, fun i a o hi ho => ?_⟩
  have q := R.obj i a o hi ho
  obtain ⟨w, hw, _⟩ := q.some
  exact q.ext R (Ext.any h) (upd_ne (ne_of_none hw h))
/-- the list is done: it joins the store -/
theorem Rel.join (R : Rel T K ρ H st) {ds : List D} (h : H p = some (.lst acc)) (hp : p ∉ ρ) (hd : DRs K ρ H ds acc) : Rel T K (ρ ++ [p]) H (st ++ [.lst ds]) := by
  refine ⟨R.tab, by rw [List.length_append, List.length_append, R.len]; rfl, ?_, fun i a x hi hx => ?_⟩
  · rw [List.nodup_append]
    refine ⟨R.nd, by simp, fun a ha b hb e => ?_⟩
    have : b = p := by simpa using hb
    subst this; subst e; exact hp ha
  · by_cases hl : i < ρ.length
    · rw [List.getElem?_append_left hl] at hi
      rw [List.getElem?_append_left (by rw [← R.len]; exact hl)] at hx
      exact (R.obj i a x hi hx).mv Mv.more rfl
    · have hle : ρ.length ≤ i := Nat.le_of_not_lt hl
      rw [List.getElem?_append_right hle] at hi
      rw [List.getElem?_append_right (by rw [← R.len]; exact hle)] at hx
      have hi0 : i - ρ.length = 0 := by
        have := (List.getElem?_eq_some_iff.mp hi).1
        simp at this; omega
      have hx0 : i - st.length = 0 := by rw [← R.len]; exact hi0
      rw [hi0] at hi
      rw [hx0] at hx
      simp at hi hx
      subst hi; subst hx
      exact ⟨acc, h, DRs.mv Mv.more _ _ hd⟩
end

/-! ### what is walked -/
inductive Src where
  | seq (ds : List D) | live (n : Nat) | rng (lo : Int) (n : Nat) | chars (x : Str) | zip (xs ys : List D)
inductive Lap where
  | stop | got (d : D) | bad
def lapOf : Option D → Lap
  | some d => .got d
  | none => .stop
def zipAt : Option D → Option D → Lap
  | some x, some y => .got (.tup [x, y])
  | _, _ => .stop
def liveAt (i : Nat) : Option O → Lap
  | some (.lst ds) => lapOf ds[i]?
  | _ => .bad
def chrAt : Option Nat → Lap
  | some c => .got (.str ⟨#[c]⟩)
  | none => .stop
def Src.at (s : Src) (st : S) (i : Nat) : Lap := match s with
  | .seq ds => lapOf ds[i]?
  | .live n => liveAt i st[n]?
  | .rng lo n => if i < n then .got (.int (lo + i)) else .stop
  | .chars x => chrAt x.cps[i]?
  | .zip xs ys => zipAt xs[i]? ys[i]?
def LapOk (T : List (Addr × Str)) (K : PySem.W.Frag) (ρ : List Addr) (H : Hp) (st : S) (J : It) (i : Nat) : Lap → Prop
  | .stop => J.stop i H
  | .got d => J.go i H ∧ ∀ x H2, J.yld i H x H2 → Ext ρ H ρ H2 ∧ Rel T K ρ H2 st ∧ DR K ρ H2 d x
  | .bad => True
def SrcOk (T : List (Addr × Str)) (K : PySem.W.Frag) (ρ : List Addr) (H : Hp) (s : Src) (J : It) : Prop := ∀ (ρ1 : List Addr) (H1 : Hp) (st1 : S) (i : Nat), Ext ρ H ρ1 H1 → Rel T K ρ1 H1 st1 → LapOk T K ρ1 H1 st1 J i (s.at st1 i)
theorem SrcOk.ext {K : PySem.W.Frag} {ρ ρ1 : List Addr} {H H1 : Hp} {s : Src} {J : It} (h : SrcOk T K ρ H s J) (e : Ext ρ H ρ1 H1) : SrcOk T K ρ1 H1 s J := fun ρ2 H2 st2 i e2 R => h ρ2 H2 st2 i (e.trans e2) R
def iM (T : List (Addr × Str)) (K : PySem.W.Frag) (m : Es → M Src) : TI := fun σ H R => ∃ (ρ : List Addr) (st : S) (es : Es) (s : Src) (st' : S), Rel T K ρ H st ∧ ER K ρ H es σ ∧ m es st = some (s, st') ∧
  ∀ (ρ' : List Addr) (H' : Hp) (J : It), Ext ρ H ρ' H' → Rel T K ρ' H' st' → SrcOk T K ρ' H' s J → R J H'
section
variable {K : PySem.W.Frag} {ρ : List Addr} {H : Hp} {st : S}
theorem DRs.at {ds : List D} {vs : List V} (h : DRs K ρ H ds vs) (i : Nat) : (ds[i]? = none ∧ vs.length ≤ i) ∨ ∃ d v, ds[i]? = some d ∧ vs[i]? = some v ∧ DR K ρ H d v := by
  cases q : ds[i]? with
  | none =>
    have := List.getElem?_eq_none_iff.mp q
    exact .inl ⟨rfl, by rw [h.length]; exact this⟩
  | some d =>
    obtain ⟨v, h1, h2⟩ := h.get q
    exact .inr ⟨d, v, rfl, h1, h2⟩
theorem src_list {ds : List D} {a : Addr} {vs : List V} (R : Rel T K ρ H st) (q : RoL K H a vs) (hd : DRs K ρ H ds vs) : SrcOk T K ρ H (.seq ds) (Itl K a) := by
  intro ρ1 H1 st1 i e R1
  have q1 := RoL.ext R e q
  show LapOk T K ρ1 H1 st1 (Itl K a) i (lapOf ds[i]?)
  rcases (DRs.ext R e _ _ hd).at i with ⟨h1, h2⟩ | ⟨d, v, h1, h2, h3⟩
  · rw [h1]; exact ⟨vs, q1.sq, h2⟩
  · rw [h1]
    refine ⟨⟨vs, v, q1.sq, h2⟩, fun x H2 y => ?_⟩
    obtain ⟨rfl, y⟩ := y
    have := y vs q1.sq
    rw [h2] at this; cases this
    exact ⟨Ext.refl _ _, R1, h3⟩
theorem src_tup {ds : List D} {a : Addr} {vs : List V} (R : Rel T K ρ H st) (q : SqT K H a vs) (hd : DRs K ρ H ds vs) : SrcOk T K ρ H (.seq ds) (Itt K a) := by
  intro ρ1 H1 st1 i e R1
  have q1 := SqT.ext R e q
  show LapOk T K ρ1 H1 st1 (Itt K a) i (lapOf ds[i]?)
  rcases (DRs.ext R e _ _ hd).at i with ⟨h1, h2⟩ | ⟨d, v, h1, h2, h3⟩
  · rw [h1]; exact ⟨vs, q1, h2⟩
  · rw [h1]
    refine ⟨⟨vs, v, q1, h2⟩, fun x H2 y => ?_⟩
    obtain ⟨rfl, y⟩ := y
    have := y vs q1
    rw [h2] at this; cases this
    exact ⟨Ext.refl _ _, R1, h3⟩
theorem src_live {n : Nat} {a : Addr} (hn : ρ[n]? = some a) : SrcOk T K ρ H (.live n) (Itl K a) := by
  intro ρ1 H1 st1 i e R1
  have h1 := e.get hn
  show LapOk T K ρ1 H1 st1 (Itl K a) i (liveAt i st1[n]?)
  cases q : st1[n]? with
  | none => trivial
  | some o =>
    cases o with
    | lst ds =>
      obtain ⟨vs, h2, h3⟩ := R1.obj n a _ h1 q
      show LapOk T K ρ1 H1 st1 (Itl K a) i (lapOf ds[i]?)
      rcases h3.at i with ⟨h4, h5⟩ | ⟨d, v, h4, h5, h6⟩
      · rw [h4]; exact ⟨vs, SqL.of h2, h5⟩
      · rw [h4]
        refine ⟨⟨vs, v, SqL.of h2, h5⟩, fun x H2 y => ?_⟩
        obtain ⟨rfl, y⟩ := y
        have := y vs (SqL.of h2)
        rw [h5] at this; cases this
        exact ⟨Ext.refl _ _, R1, h6⟩
    | _ => trivial
theorem src_rng {lo : Int} {n : Nat} : SrcOk T K ρ H (.rng lo n) (Itr lo n) := by
  intro ρ1 H1 st1 i e R1
  show LapOk T K ρ1 H1 st1 (Itr lo n) i (if i < n then .got (.int (lo + i)) else .stop)
  by_cases h : i < n
  · rw [if_pos h]
    refine ⟨h, fun x H2 y => ?_⟩
    obtain ⟨rfl, rfl⟩ := y
    exact ⟨Ext.refl _ _, R1, by rw [DR]⟩
  · rw [if_neg h]; exact Nat.le_of_not_lt h
theorem src_chars {x : Str} : SrcOk T K ρ H (.chars x) (Its x) := by
  intro ρ1 H1 st1 i e R1
  show LapOk T K ρ1 H1 st1 (Its x) i (chrAt x.cps[i]?)
  cases q : x.cps[i]? with
  | none => exact Array.getElem?_eq_none_iff.mp q
  | some c =>
    refine ⟨(Array.getElem?_eq_some_iff.mp q).1, fun v H2 y => ?_⟩
    obtain ⟨rfl, c', h1, rfl⟩ := y
    rw [q] at h1; cases h1
    exact ⟨Ext.refl _ _, R1, by rw [DR]⟩
theorem src_zip {xs ys : List D} {a b : Addr} {vs ws : List V} (R : Rel T K ρ H st) (q : SqT K H a vs) (hd : DRs K ρ H xs vs) (q' : SqT K H b ws) (hd' : DRs K ρ H ys ws) : SrcOk T K ρ H (.zip xs ys) (RZ.ItzT K a b) := by
  intro ρ1 H1 st1 i e R1
  have q1 := SqT.ext R e q
  have q2 := SqT.ext R e q'
  show LapOk T K ρ1 H1 st1 (RZ.ItzT K a b) i (zipAt xs[i]? ys[i]?)
  rcases (DRs.ext R e _ _ hd).at i with ⟨h1, h2⟩ | ⟨d, v, h1, h2, h3⟩
  · rw [h1]; exact ⟨vs, ws, q1, q2, .inl h2⟩
  · rcases (DRs.ext R e _ _ hd').at i with ⟨g1, g2⟩ | ⟨d', v', g1, g2, g3⟩
    · rw [h1, g1]; exact ⟨vs, ws, q1, q2, .inr g2⟩
    · rw [h1, g1]
      refine ⟨⟨vs, ws, v, v', q1, q2, h2, g2⟩, fun x H2 y => ?_⟩
      obtain ⟨T, x1, y1, rfl, hT, rfl, y1', y2'⟩ := y
      have e1 := y1' vs q1
      have e2 := y2' ws q2
      rw [h2] at e1; cases e1
      rw [g2] at e2; cases e2
      exact ⟨Ext.tup hT, R1.tup hT, by rw [DR]; exact ⟨T, _, rfl, upd_same, DRs.ext R1 (Ext.tup hT) _ _ (DRs.cons h3 (DRs.cons g3 DRs.nil))⟩⟩
end

/-! ### the rules -/
def seqSrc : D → M Src
  | .tup ds => pure (.seq ds)
  | .rot ds => pure (.seq ds)
  | .rol ds => pure (.seq ds)
  | .ref n => fun st => match st[n]? with
    | some (.lst _) => some (.live n, st)
    | _ => none
  | .str x => pure (.chars x)
  | _ => fail
def overS (me : Es → M D) : Es → M Src := fun es => do
  let x ← me es
  seqSrc x
def small62 (j : Int) : Bool := decide (-(2 ^ 62) ≤ j) && decide (j < 2 ^ 62)
def rng1S (me : Es → M D) : Es → M Src := fun es => do
  let x ← me es
  match x with
    | .int j => do
      guardM (small62 j)
      pure (.rng 0 j.toNat)
    | _ => fail
def rng2S (me mf : Es → M D) : Es → M Src := fun es => do
  let x ← me es
  let y ← mf es
  match x, y with
    | .int i, .int j => do
      guardM (small62 i && small62 j)
      pure (.rng i (j - i).toNat)
    | _, _ => fail
def zipS (me mf : Es → M D) : Es → M Src := fun es => do
  let x ← me es
  let y ← mf es
  match x, y with
    | .tup xs, .tup ys => pure (.zip xs ys)
    | _, _ => fail
theorem small62_of {j : Int} (h : small62 j = true) : -(2 ^ 62) ≤ j ∧ j < 2 ^ 62 := by
  unfold small62 at h
  simp only [Bool.and_eq_true, decide_eq_true_eq] at h
  exact h
section
variable {X : Cx} {tg e : Expr} {me : Es → M D} {ma : Es → M (List D)}
theorem PI.as {t t' : TI} (h : PI X tg e t) (i : ∀ σ H R, t' σ H R → t σ H R) : PI X tg e t' := ⟨fun pins s σ H R I q => h.run pins s σ H R I (i σ H R q)⟩
/-- over whatever stands there: a list, a tuple, a text -/
def iAny (K : PySem.W.Frag) (te : TE) : TI := fun σ H R => te σ H fun x H1 => (∃ a, x = .ref a ∧ (∃ xs, SqL K H1 a xs) ∧ R (Itl K a) H1) ∨ (∃ a, x = .ref a ∧ (∃ xs, SqT K H1 a xs) ∧ R (Itt K a) H1) ∨ ∃ z, x = .str z ∧ R (Its z) H1
theorem pi_any {te : TE} (he : PE X e te) : PI X tg e (iAny X.K te) := by
  refine ⟨fun pins s σ H R I h => thn (he.run pins s σ H _ I h) fun v s1 ⟨x, H1, I1, r1, q1⟩ => ?_⟩
  have fresh : ∀ {J : It} {H2 : Hp} {p : Addr}, R J H2 → R J H2 := fun q => q
  rcases q1 with ⟨a, rfl, ⟨xs, hq⟩, q⟩ | ⟨a, rfl, ⟨xs, hq⟩, q⟩ | ⟨z, rfl, q⟩
  · cases r1
    obtain ⟨its, rv, p, hz⟩ := I1.list hq
    exact wpAny_pyIter_list p.isList (pi_one (tk := s1.toks) I1 _ (turn_list a _) ⟨_, Heap.get?_push_size _ rfl, rfl, rfl⟩ q)
  · cases r1
    obtain ⟨its, rv, p, hz⟩ := I1.tuple hq
    exact wpAny_pyIter_tuple (show s1.heap.IsTuple a its.toArray from p) (pi_one (tk := s1.toks) I1 _ (turn_tuple a _) ⟨_, Heap.get?_push_size _ rfl, rfl, rfl⟩ q)
  · obtain ⟨t, rfl⟩ := r1
    cases ha : z.cps.all (· < 128)
    · exact wpAny_pyIter_wide ha (pi_one (tk := s1.toks) I1 _ (turn_str _ z t "str_iterator" (.inr rfl)) ⟨_, Heap.get?_push_size _ rfl, rfl, rfl⟩ q)
    · exact wpAny_pyIter_ascii ha (pi_one (tk := s1.toks) I1 _ (turn_str _ z t "str_ascii_iterator" (.inl rfl)) ⟨_, Heap.get?_push_size _ rfl, rfl, rfl⟩ q)
theorem iover (he : PE X e (eM T X.K me)) : PI X tg e (iM T X.K (overS me)) := PI.as (pi_any he) fun σ H R0 h => by
  obtain ⟨ρ, st, es, s, st', R, Er, hm, k⟩ := h
  obtain ⟨x, s1, h1, h2⟩ := bind_some hm
  refine ⟨ρ, st, es, x, s1, R, Er, h1, fun ρ1 v1 H1 e1 R1 d1 => ?_⟩
  cases x with
  | tup ds =>
    obtain ⟨rfl, rfl⟩ := pure_some h2
    obtain ⟨a, vs, rfl, q1, q2⟩ := d1.tup
    exact .inr (.inl ⟨a, rfl, ⟨vs, q1⟩, k ρ1 H1 _ e1 R1 (src_tup R1 q1 q2)⟩)
  | rot ds =>
    obtain ⟨rfl, rfl⟩ := pure_some h2
    obtain ⟨a, vs, rfl, q1, q2⟩ := d1.rot
    exact .inr (.inl ⟨a, rfl, ⟨vs, q1⟩, k ρ1 H1 _ e1 R1 (src_tup R1 q1 q2)⟩)
  | rol ds =>
    obtain ⟨rfl, rfl⟩ := pure_some h2
    obtain ⟨a, vs, rfl, q1, q2⟩ := d1.rol
    exact .inl ⟨a, rfl, ⟨vs, q1.sq⟩, k ρ1 H1 _ e1 R1 (src_list R1 q1 q2)⟩
  | ref n =>
    have h3 : (match s1[n]? with | some (.lst _) => some (Src.live n, s1) | _ => none) = some (s, st') := h2
    split at h3
    · rename_i ds hn
      cases h3
      obtain ⟨a, vs, rfl, hp, q1, q2⟩ := R1.lst d1 hn
      exact .inl ⟨a, rfl, ⟨vs, SqL.of q1⟩, k ρ1 H1 _ e1 R1 (src_live hp)⟩
    · cases h3
  | str z =>
    obtain ⟨rfl, rfl⟩ := pure_some h2
    exact .inr (.inr ⟨z, d1.str, k ρ1 H1 _ e1 R1 src_chars⟩)
  | _ => cases h2
theorem irange1 {a : Expr} {p pos : Pos} (hg : Gl X "range") (hm : X.mg "range" = none) (ha : PE X a (eM T X.K me)) (hn : starEach [a] X.env = (false, eval a X.env) :: starEach [] X.env := by rfl) (hs : starEach [a] X.env = [(false, eval a X.env)] := by rfl) : PI X tg (.Call (.Name "range" p) [a] [] pos) (iM T X.K (rng1S me)) :=
  PI.as (pi_range1 hg hm (pa_cons ha pa_nil hn) hs) fun σ H R0 h => by
    obtain ⟨ρ, st, es, s, st', R, Er, hm2, k⟩ := h
    obtain ⟨x, s1, h1, h2⟩ := bind_some hm2
    refine ⟨ρ, st, es, x, s1, R, Er, h1, fun ρ1 v1 H1 e1 R1 d1 => ?_⟩
    cases x with
    | int j =>
      obtain ⟨hz, h3⟩ := guarded h2
      obtain ⟨rfl, rfl⟩ := pure_some h3
      have z := small62_of hz
      exact ⟨j, by rw [d1.int], z.1, z.2, k ρ1 H1 _ e1 R1 src_rng⟩
    | _ => cases h2
theorem irange2 {a b : Expr} {mf : Es → M D} {p pos : Pos} (hg : Gl X "range") (hm : X.mg "range" = none) (ha : PE X a (eM T X.K me)) (hb : PE X b (eM T X.K mf)) (hn : starEach [a, b] X.env = (false, eval a X.env) :: starEach [b] X.env := by rfl) (hn2 : starEach [b] X.env = (false, eval b X.env) :: starEach [] X.env := by rfl)
    (hs : starEach [a, b] X.env = [(false, eval a X.env), (false, eval b X.env)] := by rfl) (hs2 : starEach [b] X.env = [(false, eval b X.env)] := by rfl) : PI X tg (.Call (.Name "range" p) [a, b] [] pos) (iM T X.K (rng2S me mf)) :=
  PI.as (pi_range2 hg hm (pa_cons ha (pa_cons hb pa_nil hn2) hn) hs hs2) fun σ H R0 h => by
    obtain ⟨ρ, st, es, s, st', R, Er, hm2, k⟩ := h
    obtain ⟨x, s1, h1, h2⟩ := bind_some hm2
    obtain ⟨y, s2, h3, h4⟩ := bind_some h2
    refine ⟨ρ, st, es, x, s1, R, Er, h1, fun ρ1 v1 H1 e1 R1 d1 => ⟨ρ1, s1, es, y, s2, R1, Er.ext R e1, h3, fun ρ2 v2 H2 e2 R2 d2 => ?_⟩⟩
    have d1' := DR.ext R1 e2 _ _ d1
    cases x with
    | int i => cases y with
      | int j =>
        obtain ⟨hz, h5⟩ := guarded h4
        obtain ⟨rfl, rfl⟩ := pure_some h5
        rw [Bool.and_eq_true] at hz
        have z := small62_of hz.1
        have z' := small62_of hz.2
        exact ⟨i, j, by rw [d1'.int, d2.int], ⟨z.1, z.2, z'.1, z'.2⟩, k ρ2 H2 _ (e1.trans e2) R2 src_rng⟩
      | _ => cases h4
    | _ => cases y <;> cases h4
theorem izip {a b : Expr} {mf : Es → M D} {p pos tpos : Pos} {elts : List Expr} {kk : Nat} (hg : Gl X "zip") (hm : X.mg "zip" = none) (ha : PE X a (eM T X.K me)) (hb : PE X b (eM T X.K mf)) (hn2 : starEach [b] X.env = (false, eval b X.env) :: starEach [] X.env := by rfl)
    (hs : starEach [a, b] X.env = (false, eval a X.env) :: starEach [b] X.env := by rfl) (hpl : (backTo pos (starEach [b] X.env)).any (·.1) = false := by rfl) : PI X (.Tuple elts kk tpos) (.Call (.Name "zip" p) [a, b] [] pos) (iM T X.K (zipS me mf)) :=
  PI.as (RZ.pi_zipA hg hm (pa_cons ha (pa_cons hb pa_nil hn2) hs) hs hpl) fun σ H R0 h => by
    obtain ⟨ρ, st, es, s, st', R, Er, hm2, k⟩ := h
    obtain ⟨x, s1, h1, h2⟩ := bind_some hm2
    obtain ⟨y, s2, h3, h4⟩ := bind_some h2
    refine ⟨ρ, st, es, x, s1, R, Er, h1, fun ρ1 v1 H1 e1 R1 d1 => ⟨ρ1, s1, es, y, s2, R1, Er.ext R e1, h3, fun ρ2 v2 H2 e2 R2 d2 => ?_⟩⟩
    have d1' := DR.ext R1 e2 _ _ d1
    cases x with
    | tup xs => cases y with
      | tup ys =>
        obtain ⟨rfl, rfl⟩ := pure_some h4
        obtain ⟨a1, vs, rfl, q1, q2⟩ := d1'.tup
        obtain ⟨b1, ws, rfl, q3, q4⟩ := d2.tup
        exact ⟨a1, b1, vs, ws, rfl, .inr ⟨q1, q3, k ρ2 H2 _ (e1.trans e2) R2 (src_zip R2 q1 q2 q3 q4)⟩⟩
      | _ => cases h4
    | _ => cases y <;> cases h4
end

/-! ### for -/
def lapS (s : Src) (g : D → Es → M Es) (b : Es → M (Es × Fl)) : Nat → Nat → Es → M (Es × Fl)
  | 0, _, _ => fail
  | n + 1, i, es => fun st => match s.at st i with
    | .stop => some ((es, .nx), st)
    | .bad => none
    | .got d => (do
      let es1 ← g d es
      let p ← b es1
      match p.2 with
        | .nx => lapS s g b n (i + 1) p.1
        | .ct => lapS s g b n (i + 1) p.1
        | .bk => pure (p.1, .nx)
        | .rt d => pure (p.1, .rt d)) st
def forS (L : Nat) (src : Es → M Src) (g : D → Es → M Es) (b : Es → M (Es × Fl)) : Es → M (Es × Fl) := fun es => do
  let s ← src es
  lapS s g b L 0 es
/-- what a loop is to reach: its end, or a return -/
def Out (T : List (Addr × Str)) (K : PySem.W.Frag) (ρ : List Addr) (H : Hp) (E : Ends) (q : (Es × Fl) × S) : Prop := (q.1.2 = .nx ∨ ∃ d, q.1.2 = .rt d) ∧ Done T K ρ H q.1.1 q.2 E q.1.2
theorem lapS_nx {s : Src} {g : D → Es → M Es} {b : Es → M (Es × Fl)} : ∀ (n i : Nat) (es es' : Es) (f : Fl) (st st' : S), lapS s g b n i es st = some ((es', f), st') → f = .nx ∨ ∃ d, f = .rt d
  | 0, _, _, _, _, _, _, h => by cases h
  | n + 1, i, es, es', f, st, st', h => by
    unfold lapS at h
    split at h
    · cases h; exact .inl rfl
    · cases h
    · obtain ⟨es1, s1, h1, h2⟩ := bind_some h
      obtain ⟨⟨es2, f2⟩, s2, h3, h4⟩ := bind_some h2
      cases f2 with
      | nx => exact lapS_nx n (i + 1) _ _ _ _ _ h4
      | ct => exact lapS_nx n (i + 1) _ _ _ _ _ h4
      | bk => obtain ⟨_, rfl, _⟩ := pair_some h4; exact .inl rfl
      | rt d => obtain ⟨_, rfl, _⟩ := pair_some h4; exact .inr ⟨d, rfl⟩
section
variable {X : Cx} {tg iter : Expr} {body : List Stmt} {pos : Pos} {src : Es → M Src} {g : D → Es → M Es} {b : Es → M (Es × Fl)}
theorem sfor (L : Nat) (hp : PassesOwn (model X.prog X.w) X.A X.env X.xe) (hc : X.calm = true) (hi : PI X tg iter (iM T X.K src)) (hg : PG X tg (gM T X.K g)) (hb : PSs X body (sM T X.K b))
    (hs : ∀ x, foldedSetIterable iter X.env x = pure x := by intro _; rfl) : PS X (.For tg iter body [] pos) (sM T X.K (forS L src g b)) :=
  PS.as (ps_for hp hc hi hg hb hs) fun E σ H h => by
    obtain ⟨ρ, st, es, es', f, st', R, Er, hm, k⟩ := h
    obtain ⟨s, s1, h1, h2⟩ := bind_some hm
    refine ⟨ρ, st, es, s, s1, R, Er, h1, fun ρ1 H1 J e1 R1 hJ => ?_⟩
    refine ⟨fun i m σ2 H2 => ∃ (ρ2 : List Addr) (es2 : Es) (st2 : S), Ext ρ1 H1 ρ2 H2 ∧ Rel T X.K ρ2 H2 st2 ∧ ER X.K ρ2 H2 es2 σ2 ∧ lapS s g b m i es2 st2 = some ((es', f), st'), ⟨L, ρ1, es, s1, Ext.refl _ _, R1, Er.ext R e1, h2⟩, ?_⟩
    rintro i m σ2 H2 ⟨ρ2, es2, st2, e2, R2, Er2, h3⟩
    cases m with
    | zero => cases h3
    | succ m =>
      have lap := hJ ρ2 H2 st2 i e2 R2
      unfold lapS at h3
      cases q : s.at st2 i with
      | stop =>
        rw [q] at h3 lap
        have h3' : some ((es2, Fl.nx), st2) = some ((es', f), st') := h3
        cases h3'
        exact .inl ⟨lap, k ρ2 σ2 H2 (e1.trans e2) R2 Er2⟩
      | bad => rw [q] at h3; cases h3
      | got d =>
        rw [q] at h3 lap
        refine .inr ⟨lap.1, fun σ3 H3 => ∃ m', m' < m + 1 ∧ ∃ (ρ2 : List Addr) (es2 : Es) (st2 : S), Ext ρ1 H1 ρ2 H3 ∧ Rel T X.K ρ2 H3 st2 ∧ ER X.K ρ2 H3 es2 σ3 ∧ lapS s g b m' (i + 1) es2 st2 = some ((es', f), st'), fun σ' H' q => q, fun x H3 y => ?_⟩
        obtain ⟨e3, R3, d3⟩ := lap.2 x H3 y
        have h4 : (do
          let es1 ← g d es2
          let p ← b es1
          match p.2 with
            | .nx => lapS s g b m (i + 1) p.1
            | .ct => lapS s g b m (i + 1) p.1
            | .bk => pure (p.1, .nx)
            | .rt d => pure (p.1, .rt d)) st2 = some ((es', f), st') := h3
        obtain ⟨es3, s3, h5, h6⟩ := bind_some h4
        obtain ⟨⟨es4, f4⟩, s4, h7, h8⟩ := bind_some h6
        refine ⟨ρ2, st2, es2, d, es3, s3, R3, Er2.ext R2 e3, d3, h5, fun ρ4 σ4 H4 e4 R4 Er4 => ⟨ρ4, s3, es3, es4, f4, s4, R4, Er4, h7, ?_⟩⟩
        have eAll : Ext ρ1 H1 ρ4 H4 := (e2.trans e3).trans e4
        cases f4 with
        | nx => exact fun ρ5 σ5 H5 e5 R5 Er5 => ⟨m, Nat.lt_succ_self _, ρ5, es4, s4, eAll.trans e5, R5, Er5, h8⟩
        | ct => exact fun ρ5 σ5 H5 e5 R5 Er5 => ⟨m, Nat.lt_succ_self _, ρ5, es4, s4, eAll.trans e5, R5, Er5, h8⟩
        | bk =>
          obtain ⟨rfl, rfl, rfl⟩ := pair_some h8
          exact fun ρ5 σ5 H5 e5 R5 Er5 => k ρ5 σ5 H5 ((e1.trans eAll).trans e5) R5 Er5
        | rt d =>
          obtain ⟨rfl, rfl, rfl⟩ := pair_some h8
          exact k.from (e1.trans eAll)

/-! ### while -/
def loopS (t : Es → M Bool) (b : Es → M (Es × Fl)) : Nat → Es → M (Es × Fl)
  | 0, _ => fail
  | n + 1, es => do
    let q ← t es
    if q then do
      let p ← b es
      match p.2 with
        | .nx => loopS t b n p.1
        | .ct => loopS t b n p.1
        | .bk => pure (p.1, .nx)
        | .rt d => pure (p.1, .rt d)
    else pure (es, .nx)
theorem swhile (L : Nat) {c : Expr} {t : Es → M Bool} (hp : PassesOwn (model X.prog X.w) X.A X.env X.xe) (hc : PT X c (tM T X.K t)) (hb : PSs X body (sM T X.K b)) : PS X (.While c body [] pos) (sM T X.K (loopS t b L)) :=
  PS.as (ps_while hp hc hb) fun E σ H h => by
    obtain ⟨ρ, st, es, es', f, st', R, Er, hm, k⟩ := h
    refine ⟨fun m σ2 H2 => ∃ (ρ2 : List Addr) (es2 : Es) (st2 : S), Ext ρ H ρ2 H2 ∧ Rel T X.K ρ2 H2 st2 ∧ ER X.K ρ2 H2 es2 σ2 ∧ loopS t b m es2 st2 = some ((es', f), st'), ⟨L, ρ, es, st, Ext.refl _ _, R, Er, hm⟩, ?_⟩
    rintro m σ2 H2 ⟨ρ2, es2, st2, e2, R2, Er2, h3⟩
    cases m with
    | zero => cases h3
    | succ m =>
      have h4 : (do
        let q ← t es2
        if q then do
          let p ← b es2
          match p.2 with
            | .nx => loopS t b m p.1
            | .ct => loopS t b m p.1
            | .bk => pure (p.1, .nx)
            | .rt d => pure (p.1, .rt d)
        else pure (es2, .nx)) st2 = some ((es', f), st') := h3
      obtain ⟨q, s3, h5, h6⟩ := bind_some h4
      refine ⟨ρ2, st2, es2, q, s3, R2, Er2, h5, fun ρ3 H3 e3 R3 => ?_⟩
      cases q with
      | false =>
        rw [if_neg Bool.false_ne_true] at h6 ⊢
        obtain ⟨rfl, rfl, rfl⟩ := pair_some h6
        exact k ρ3 σ2 H3 (e2.trans e3) R3 (Er2.ext R2 e3)
      | true =>
        rw [if_pos rfl] at h6 ⊢
        obtain ⟨⟨es4, f4⟩, s4, h7, h8⟩ := bind_some h6
        refine ⟨fun σ3 H3 => ∃ m', m' < m + 1 ∧ ∃ (ρ2 : List Addr) (es2 : Es) (st2 : S), Ext ρ H ρ2 H3 ∧ Rel T X.K ρ2 H3 st2 ∧ ER X.K ρ2 H3 es2 σ3 ∧ loopS t b m' es2 st2 = some ((es', f), st'), fun σ' H' q => q,
          ρ3, s3, es2, es4, f4, s4, R3, Er2.ext R2 e3, h7, ?_⟩
        have eAll : Ext ρ H ρ3 H3 := e2.trans e3
        cases f4 with
        | nx => exact fun ρ5 σ5 H5 e5 R5 Er5 => ⟨m, Nat.lt_succ_self _, ρ5, es4, s4, eAll.trans e5, R5, Er5, h8⟩
        | ct => exact fun ρ5 σ5 H5 e5 R5 Er5 => ⟨m, Nat.lt_succ_self _, ρ5, es4, s4, eAll.trans e5, R5, Er5, h8⟩
        | bk =>
          obtain ⟨rfl, rfl, rfl⟩ := pair_some h8
          exact fun ρ5 σ5 H5 e5 R5 Er5 => k ρ5 σ5 H5 (eAll.trans e5) R5 Er5
        | rt d =>
          obtain ⟨rfl, rfl, rfl⟩ := pair_some h8
          exact k.from eAll
end
end Mx


/-! Mx9: list comprehensions, methods, op=, dict displays, locking. -/
namespace Mx
open PySem PySem.Spec L2
variable {T : List (Addr × Str)}

/-! ### targets of a block: they write the block's own slots -/
def wipeE (es : Es) : List Nat → Es
  | [] => es
  | v :: vs => (wipeE es vs).set v none
theorem ER.wipe {K : PySem.W.Frag} {ρ : List Addr} {H : Hp} {es : Es} {σ : St} (h : ER K ρ H es σ) : ∀ vs : List Nat, ER K ρ H (wipeE es vs) (wipe σ vs)
  | [] => h
  | v :: vs => (ER.wipe h vs).clear
theorem set_set_none (σ : St) (i j : Nat) (x : Option V) : (σ.set i x).set j none = if i = j then σ.set j none else (σ.set j none).set i x := by
  by_cases h : i = j
  · subst h; rw [if_pos rfl, List.set_set]
  · rw [if_neg h, List.set_comm _ _ h]
theorem wipe_set {σ : St} {i : Nat} {x : Option V} : ∀ vs : List Nat, wipe (σ.set i x) vs = if i ∈ vs then wipe σ vs else (wipe σ vs).set i x
  | [] => by rw [if_neg (by simp)]; rfl
  | v :: vs => by
    show (wipe (σ.set i x) vs).set v none = if i ∈ v :: vs then (wipe σ vs).set v none else ((wipe σ vs).set v none).set i x
    rw [wipe_set vs]
    by_cases hi : i ∈ vs
    · rw [if_pos hi, if_pos (List.mem_cons_of_mem _ hi)]
    · rw [if_neg hi, set_set_none]
      by_cases hv : i = v
      · subst hv; rw [if_pos rfl, if_pos (List.mem_cons_self ..)]
      · rw [if_neg hv, if_neg (fun z => (List.mem_cons.mp z).elim hv hi)]
theorem wipe_wipe {σ : St} {ws : List Nat} : ∀ (vs us : List Nat), (∀ v ∈ vs, v ∈ ws) → wipe (wipe σ vs) ws = wipe σ ws
  | [], _, _ => rfl
  | v :: vs, us, h => by
    show wipe ((wipe σ vs).set v none) ws = wipe σ ws
    rw [wipe_set, if_pos (h v (List.mem_cons_self ..))]
    exact wipe_wipe vs us fun x hx => h x (List.mem_cons_of_mem _ hx)
def gW (T : List (Addr × Str)) (K : PySem.W.Frag) (vs : List Nat) (g : D → Es → M Es) : TG := fun v σ H Q => ∃ (ρ : List Addr) (st : S) (es : Es) (d : D) (es' : Es) (st' : S), Rel T K ρ H st ∧ ER K ρ H es σ ∧ DR K ρ H d v ∧ g d es st = some (es', st') ∧
  ∀ (ρ' : List Addr) (σ' : St) (H' : Hp), Ext ρ H ρ' H' → Rel T K ρ' H' st' → ER K ρ' H' es' σ' → wipe σ' vs = wipe σ vs → Q σ' H'
def gsW (T : List (Addr × Str)) (K : PySem.W.Frag) (vs : List Nat) (g : List D → Es → M Es) : TGs := fun ws σ H Q => ∃ (ρ : List Addr) (st : S) (es : Es) (ds : List D) (es' : Es) (st' : S), Rel T K ρ H st ∧ ER K ρ H es σ ∧ DRs K ρ H ds ws ∧ g ds es st = some (es', st') ∧
  ∀ (ρ' : List Addr) (σ' : St) (H' : Hp), Ext ρ H ρ' H' → Rel T K ρ' H' st' → ER K ρ' H' es' σ' → wipe σ' vs = wipe σ vs → Q σ' H'
section
variable {X : Cx} {pos : Pos} {e : Expr} {vs : List Nat} {g : D → Es → M Es}
theorem wname (i : Nat) {x : Str} (hN : X.N.Nodup) (hv : i ∈ vs := by decide) (hi : X.N[i]? = some x := by rfl) (hx : Loc X.env.scope x := by first | exact Or.inl rfl | exact Or.inr rfl) (hf : X.fn x = true ∨ X.env.scope.names.lookup x = some .local := by first | exact .inl rfl | exact .inr rfl) :
    PG X (.Name x pos) (gW T X.K vs (nameG i)) := PG.as (pg_name hN hi hx hf) fun v σ H Q h => by
  obtain ⟨ρ, st, es, d, es', st', R, Er, hd, hm, k⟩ := h
  obtain ⟨rfl, rfl⟩ := pure_some hm
  exact k ρ _ H (Ext.refl _ _) R (Er.set hd) (by rw [wipe_set, if_pos hv])
theorem wnil : PGs X [] (gsW T X.K vs nilG) := PGs.as pgs_nil fun ws σ H Q h => by
  obtain ⟨ρ, st, es, ds, es', st', R, Er, hd, hm, k⟩ := h
  cases ds with
  | nil =>
    obtain ⟨rfl, rfl⟩ := pure_some hm
    rw [DRs] at hd
    exact ⟨hd, k ρ σ H (Ext.refl _ _) R Er rfl⟩
  | cons d r => cases hm
theorem wcons {es : List Expr} {r : List D → Es → M Es} (h1 : PG X e (gW T X.K vs g)) (h2 : PGs X es (gsW T X.K vs r))
    (hs : (assignEach (e :: es) X.env).map (·.2) = assign e X.env :: (assignEach es X.env).map (·.2) := by rfl) : PGs X (e :: es) (gsW T X.K vs (consG g r)) := PGs.as (pgs_cons h1 h2 hs) fun ws σ H Q h => by
  obtain ⟨ρ, st, es, ds, es', st', R, Er, hd, hm, k⟩ := h
  cases ds with
  | nil => cases hm
  | cons d ds =>
    rw [DRs] at hd
    obtain ⟨v, w, rfl, d1, d2⟩ := hd
    obtain ⟨es1, s1, h3, h4⟩ := bind_some hm
    exact ⟨v, w, rfl, ρ, st, es, d, es1, s1, R, Er, d1, h3, fun ρ1 σ1 H1 e1 R1 Er1 w1 => ⟨ρ1, s1, es1, ds, es', st', R1, Er1, DRs.ext R e1 _ _ d2, h4, fun ρ2 σ2 H2 e2 R2 Er2 w2 => k ρ2 σ2 H2 (e1.trans e2) R2 Er2 (w2.trans w1)⟩⟩
theorem wtup {es : List Expr} {k : Nat} {gs : List D → Es → M Es} {n : Nat} (hc : X.calm = true) (h : PGs X es (gsW T X.K vs gs))
    (hn : (assignEach es X.env).length = n := by rfl) (hst : (assignEach es X.env).findIdx? (·.1) = none := by rfl) : PG X (.Tuple es k pos) (gW T X.K vs (tupG n gs)) := PG.as (pg_tup hc h hn hst) fun v σ H Q h => by
  obtain ⟨ρ, st, es, d, es', st', R, Er, hd, hm, k⟩ := h
  cases d with
  | tup ds =>
    obtain ⟨hz, hm2⟩ := guarded hm
    obtain ⟨a, ws, rfl, q1, q2⟩ := hd.tup
    exact ⟨a, ws, rfl, q1, by rw [q2.length]; exact of_decide_eq_true hz, ρ, st, es, ds, es', st', R, Er, q2, hm2, k⟩
  | _ => cases hm
end

/-! ### list comprehensions -/
def lapC (s : Src) (g : D → Es → M Es) (t : Es → M Bool) (e : Es → M D) (es : Es) : Nat → Nat → List D → M (List D)
  | 0, _, _ => fail
  | n + 1, i, acc => fun st => match s.at st i with
    | .stop => some (acc, st)
    | .bad => none
    | .got d => (do
      let es1 ← g d es
      let q ← t es1
      if q then do
        let y ← e es1
        guardM (decide (acc.length < sizeLine))
        lapC s g t e es n (i + 1) (acc ++ [y])
      else lapC s g t e es n (i + 1) acc) st
def lcD (L : Nat) (vs : List Nat) (src : Es → M Src) (g : D → Es → M Es) (t : Es → M Bool) (e : Es → M D) : Es → M D := fun es => do
  let s ← src es
  let ds ← lapC s g t e (wipeE es vs) L 0 []
  new (.lst ds)
def yesT : Es → M Bool := fun _ => pure true
section
variable {X : Cx} {elt tg iter : Expr} {ifs : List Expr} {scope : Scope} {own : List (Str × Nat)} {pos spos : Pos} {src : Es → M Src} {g : D → Es → M Es} {t : Es → M Bool} {me : Es → M D}
theorem lc_of (L : Nat) {K : PySem.W.Frag} {vs : List Nat} {σ : St} {H : Hp} {Q : VK} (h : eM T K (lcD L vs src g t me) σ H Q) : tLc (iM T K src) (gW T K vs g) (tM T K t) (eM T K me) vs σ H Q := by
  obtain ⟨ρ, st, es, d, st', R, Er, hm, k⟩ := h
  obtain ⟨s, s1, h1, hm2⟩ := bind_some hm
  obtain ⟨ds, s2, h2, h3⟩ := bind_some hm2
  cases h3
  refine ⟨ρ, st, es, s, s1, R, Er, h1, fun ρ1 H1 J e1 R1 hJ p hp => ?_⟩
  refine ⟨fun i m H2 => ∃ (ρ2 : List Addr) (st2 : S) (acc : List D) (av : List V), Ext ρ1 H1 ρ2 H2 ∧ Rel T K ρ2 H2 st2 ∧ H2 p = some (.lst av) ∧ p ∉ ρ2 ∧ DRs K ρ2 H2 acc av ∧ lapC s g t me (wipeE es vs) m i acc st2 = some (ds, s2),
    ⟨L, ρ1, s1, [], [], Ext.any hp, R1.any hp, upd_same, fun z => ?_, DRs.nil, h2⟩, ?_⟩
  · obtain ⟨u, e, _⟩ := R1.at z
    rw [hp] at e; cases e
  rintro i m H2 ⟨ρ2, st2, acc, av, e2, R2, hl, hn, da, h3⟩
  cases m with
  | zero => cases h3
  | succ m =>
    have lap := hJ ρ2 H2 st2 i e2 R2
    unfold lapC at h3
    cases q : s.at st2 i with
    | stop =>
      rw [q] at h3 lap
      have h3' : some (acc, st2) = some (ds, s2) := h3
      cases h3'
      refine .inl ⟨lap, k (ρ2 ++ [p]) _ H2 (e1.trans ⟨e2.pre.trans (List.prefix_append _ _), fun b hb => ?_, e2.keep, e2.tbl⟩) (R2.join hl hn da) (ref_new R2)⟩
      rcases List.mem_append.mp hb with z | z
      · exact e2.new b z
      · have : b = p := by simpa using z
        subst this; exact .inr hp
    | bad => rw [q] at h3; cases h3
    | got d =>
      rw [q] at h3 lap
      have h4 : (do
        let es1 ← g d (wipeE es vs)
        let q ← t es1
        if q then do
          let y ← me es1
          guardM (decide (acc.length < sizeLine))
          lapC s g t me (wipeE es vs) m (i + 1) (acc ++ [y])
        else lapC s g t me (wipeE es vs) m (i + 1) acc) st2 = some (ds, s2) := h3
      obtain ⟨es3, s3, h5, h6⟩ := bind_some h4
      obtain ⟨b, s4, h7, h8⟩ := bind_some h6
      refine .inr ⟨lap.1, fun H3 => ∃ m', m' < m + 1 ∧ ∃ (ρ2 : List Addr) (st2 : S) (acc : List D) (av : List V), Ext ρ1 H1 ρ2 H3 ∧ Rel T K ρ2 H3 st2 ∧ H3 p = some (.lst av) ∧ p ∉ ρ2 ∧ DRs K ρ2 H3 acc av ∧ lapC s g t me (wipeE es vs) m' (i + 1) acc st2 = some (ds, s2), fun H' q => q, fun x H3 y => ?_⟩
      obtain ⟨e3, R3, d3⟩ := lap.2 x H3 y
      have keepP : ∀ {ρ5 : List Addr} {H5 : Hp}, Ext ρ2 H2 ρ5 H5 → H5 p = some (.lst av) ∧ p ∉ ρ5 := fun {ρ5 H5} e5 => by
        refine ⟨e5.keep _ _ hl hn (fun _ z => nomatch z), fun z => ?_⟩
        rcases e5.new p z with z | z
        · exact hn z
        · rw [hl] at z; cases z
      refine ⟨ρ2, st2, wipeE es vs, d, es3, s3, R3, (((Er.ext R e1).ext R1 e2).ext R2 e3).wipe vs, d3, h5, fun ρ4 σ4 H4 e4 R4 Er4 w4 => ⟨?_, ρ4, s3, es3, b, s4, R4, Er4, h7, fun ρ5 H5 e5 R5 => ?_⟩⟩
      · rw [w4]
        exact wipe_wipe vs [] fun _ h => h
      · have eAll : Ext ρ2 H2 ρ5 H5 := (e3.trans e4).trans e5
        cases b with
        | false =>
          rw [if_neg Bool.false_ne_true] at h8
          obtain ⟨k1, k2⟩ := keepP eAll
          exact iteF ⟨m, Nat.lt_succ_self _, ρ5, s4, acc, av, e2.trans eAll, R5, k1, k2, DRs.ext R2 eAll _ _ da, h8⟩
        | true =>
          rw [if_pos rfl] at h8
          refine iteT ?_
          obtain ⟨yv, s5, h9, h10⟩ := bind_some h8
          obtain ⟨hz, h11⟩ := guarded h10
          refine ⟨ρ5, s4, es3, yv, s5, R5, Er4.ext R4 e5, h9, fun ρ6 v6 H6 e6 R6 d6 => ?_⟩
          have eA6 : Ext ρ2 H2 ρ6 H6 := eAll.trans e6
          obtain ⟨k1, k2⟩ := keepP eA6
          refine ⟨av, k1, by rw [da.length]; exact of_decide_eq_true hz, m, Nat.lt_succ_self _, ρ6, s5, acc ++ [yv], av ++ [v6], ?_, R6.side k1 k2, upd_same, k2, DRs.mv (Mv.side k1) _ _ ((DRs.ext R2 eA6 _ _ da).append (DRs.cons d6 DRs.nil)), h11⟩
          have e7 := e2.trans eA6
          exact ⟨e7.pre, e7.new, fun a o q hq ht => by rw [upd_ne (ne_of_none q hp)]; exact e7.keep a o q hq ht, fun a ps q => by rw [upd_ne (ne_of_none q hp)]; exact e7.tbl a ps q⟩
theorem ptsnil : PTs X [] (tM T X.K yesT) := ⟨fun pins s σ H Q I h => pts_nil.run pins s σ H Q I (by
  obtain ⟨ρ, st, es, b, st', R, Er, hm, k⟩ := h
  obtain ⟨rfl, rfl⟩ := pure_some hm
  exact k ρ H (Ext.refl _ _) R)⟩
theorem ptsone {c : Expr} (h : PT X c (tM T X.K t)) : PTs X [c] (tM T X.K t) := pts_one h
theorem mlc (L : Nat) (own : List (Str × Nat)) (hc : X.calm = true) (hN : X.N.Nodup) (hi : PI X tg iter (iM T X.K src)) (hok : blkC X.N X.env.scope scope own = true)
    (hg : ∀ (s : Shared) (H : Hp) (C : Addr) (cl : List (Str × Addr)) (fp : List Addr), PG (X.blk s H scope (compEnvC scope cl C X.env) fp) tg (gW T X.K (own.map (·.2)) g))
    (ht : ∀ (s : Shared) (H : Hp) (C : Addr) (cl : List (Str × Addr)) (fp : List Addr), PTs (X.blk s H scope (compEnvC scope cl C X.env) fp) ifs (tM T X.K t))
    (he : ∀ (s : Shared) (H : Hp) (C : Addr) (cl : List (Str × Addr)) (fp : List Addr), PE (X.blk s H scope (compEnvC scope cl C X.env) fp) elt (eM T X.K me)) (hs : ∀ x, foldedSetIterable iter X.env x = pure x := by intro _; rfl) :
    PE X (.ListComp elt [⟨tg, iter, ifs, 0⟩] scope pos) (eM T X.K (lcD L (own.map (·.2)) src g t me)) :=
  PE.as (pe_lc hc hN hi (blkOk_by hok) hg ht he hs) fun _ _ _ h => lc_of L h
/-- name = [..] where the name is a local and all stands on one line -/
theorem ssetLc (i L : Nat) {y : Str} {py : Pos} (own : List (Str × Nat)) (hc : X.calm = true) (hN : X.N.Nodup) (hi : PI X tg iter (iM T X.K src)) (hok : blkC X.N X.env.scope scope own = true)
    (hg : ∀ (s : Shared) (H : Hp) (C : Addr) (cl : List (Str × Addr)) (fp : List Addr), PG (X.blk s H scope (compEnvC scope cl C X.env) fp) tg (gW T X.K (own.map (·.2)) g))
    (ht : ∀ (s : Shared) (H : Hp) (C : Addr) (cl : List (Str × Addr)) (fp : List Addr), PTs (X.blk s H scope (compEnvC scope cl C X.env) fp) ifs (tM T X.K t))
    (he : ∀ (s : Shared) (H : Hp) (C : Addr) (cl : List (Str × Addr)) (fp : List Addr), PE (X.blk s H scope (compEnvC scope cl C X.env) fp) elt (eM T X.K me))
    (hk : X.env.scope.kind = .function := by rfl) (hy : X.N[i]? = some y := by rfl) (hyl : X.env.scope.names.lookup y = some .local := by rfl) (hl : (py.line == pos.line) = true := by rfl)
    (ha : (scope.names.any fun (n, k) => n == y && (k == .local || k == .cell)) = false := by rfl) (hs : ∀ x, foldedSetIterable iter X.env x = pure x := by intro _; rfl) :
    PS X (.Assign [.Name y py] (.ListComp elt [⟨tg, iter, ifs, 0⟩] scope pos) spos) (sM T X.K (asgS (lcD L (own.map (·.2)) src g t me) (nameG i))) :=
  PS.as (ps_setLc hc hN hy hyl (sw_true hk hyl hl ha) hi (blkOk_by hok) hg ht he hs) fun E σ H h => by
    obtain ⟨ρ, st, es, d, st', R, Er, hm, k⟩ := asg_of h
    exact lc_of L ⟨ρ, st, es, d, st', R, Er, hm, fun ρ1 v1 H1 e1 R1 d1 => gname_of (k ρ1 v1 H1 e1 R1 d1)⟩
end

/-! ### methods of lists -/
def mtD (g : D → List D → M D) (o : Es → M D) (a : Es → M (List D)) : Es → M D := fun es => do
  let x ← o es
  let xs ← a es
  g x xs
def isLst : D → M Bool
  | .ref n => fun st => match st[n]? with
    | some (.lst _) => some (true, st)
    | _ => none
  | _ => fail
/-- the receiver is a list of the store -/
def lmD (g : D → List D → M D) (o : Es → M D) (a : Es → M (List D)) : Es → M D := fun es => do
  let x ← o es
  let _ ← isLst x
  let xs ← a es
  g x xs
def appendD : D → List D → M D
  | .ref n, [y] => do
    let xs ← lstAt n
    guardM (decide (xs.length < sizeLine))
    putAt n (.lst (xs ++ [y]))
    pure .non
  | _, _ => fail
def popD : D → List D → M D
  | .ref n, [.int i] => do
    let xs ← lstAt n
    match seqIndex? i xs.length with
      | some k => match xs[k]? with
        | some y => do
          guardM (small62 i)
          putAt n (.lst (xs.eraseIdx k))
          pure y
        | none => fail
      | none => fail
  | _, _ => fail
theorem DRs.erase {K : PySem.W.Frag} {ρ : List Addr} {H : Hp} : ∀ {ds : List D} {vs : List V} (k : Nat), DRs K ρ H ds vs → DRs K ρ H (ds.eraseIdx k) (vs.eraseIdx k)
  | [], _, k, h => by rw [DRs] at h; subst h; simp [DRs]
  | d :: ds, _, 0, h => by
    rw [DRs] at h
    obtain ⟨v, r, rfl, h2, h3⟩ := h
    exact h3
  | d :: ds, _, k + 1, h => by
    rw [DRs] at h
    obtain ⟨v, r, rfl, h2, h3⟩ := h
    rw [List.eraseIdx_cons_succ, List.eraseIdx_cons_succ]
    exact DRs.cons h2 (DRs.erase k h3)
section
variable {X : Cx}
theorem mt_appendM : MtR X "list.append" (rmM T X.K appendD) := by
  intro pins s σ H x xs v us Q I rx rs ⟨ρ, st, a, as, d, st', R, ha, hs, hg, k⟩
  match a, as, hg with
  | .ref n, [y], hg =>
    obtain ⟨ds, s1, h1, hg1⟩ := bind_some hg
    obtain ⟨e1, rfl⟩ := lstAt_some h1
    obtain ⟨hz, hg2⟩ := guarded hg1
    obtain ⟨p, vs, rfl, hp, q1, q2⟩ := R.lst ha e1
    obtain ⟨w, rfl, q3⟩ := hs.one
    cases hg2
    refine mt_append pins s σ H _ _ v us Q I rx rs ⟨p, vs, w, rfl, rfl, q1, by rw [q2.length]; exact of_decide_eq_true hz, ?_⟩
    exact k ρ _ _ (Ext.put R hp) (R.put hp fun H' e x => ⟨_, e, (DRs.ext R x _ _ q2).append (DRs.cons (DR.ext R x _ _ q3) DRs.nil)⟩) (by rw [DR])
theorem mt_popM : MtR X "list.pop" (rmM T X.K popD) := by
  intro pins s σ H x xs v us Q I rx rs ⟨ρ, st, a, as, d, st', R, ha, hs, hg, k⟩
  match a, as, hg with
  | .ref n, [.int i], hg =>
    obtain ⟨ds, s1, h1, hg1⟩ := bind_some hg
    obtain ⟨e1, rfl⟩ := lstAt_some h1
    obtain ⟨p, vs, rfl, hp, q1, q2⟩ := R.lst ha e1
    obtain ⟨w, rfl, q3⟩ := hs.one
    cases hk : seqIndex? i ds.length with
    | none => rw [hk] at hg1; cases hg1
    | some j =>
      cases hy : ds[j]? with
      | none => simp only [hk, hy] at hg1; cases hg1
      | some y =>
        simp only [hk, hy] at hg1
        obtain ⟨hz, hg2⟩ := guarded hg1
        cases hg2
        have z := small62_of hz
        obtain ⟨yv, f1, f2⟩ := q2.get hy
        have hw := q3.int
        subst hw
        refine mt_popAt pins s σ H _ _ v us Q I rx rs ⟨p, vs, i, j, yv, rfl, rfl, q1, by omega, by omega, by rw [q2.length]; exact hk, f1, ?_⟩
        exact k ρ _ _ (Ext.put R hp) (R.put hp fun H' e x => ⟨_, e, (DRs.ext R x _ _ q2).erase j⟩) (DR.ext R (Ext.put R hp) _ _ f2)
variable {o e : Expr} {es : List Expr} {mo : Es → M D} {ma : Es → M (List D)} {name : Str} {apos cpos : Pos} {id : String} {g : D → List D → M D}
theorem mlm (slot : Slot "list" name id) (hty : typeOf (.builtin id) = pure (.type "method_descriptor")) (hm : MtR X id (rmM T X.K g)) (ho : PE X o (eM T X.K mo)) (ha : PA X (e :: es) (aM T X.K ma))
    (hbase : attributeBase o name X.env (eval o X.env) = eval o X.env := by rfl)
    (hfew : ((backTo cpos (starEach (e :: es) X.env)).all (fun x => !x.1) && (backToKw cpos (keywordEach [] X.env)).all (fun x => x.1.isSome)
      && decide ((e :: es).length + ([] : List Keyword).length + (if ([] : List Keyword).isEmpty then 0 else 1) < 30)) = true := by rfl)
    (hline : (apos.endLine == cpos.line) = true := by rfl) (hs : starEach (e :: es) X.env = (false, eval e X.env) :: starEach es X.env := by rfl) (hplain : (backTo cpos (starEach es X.env)).any (·.1) = false := by rfl) :
    PE X (.Call (.Attribute o name apos) (e :: es) [] cpos) (eM T X.K (lmD g mo ma)) :=
  PE.as (pe_bm PySem.F.plainAttrs_list slot hty hm ho ha hbase hfew hline hs hplain) fun σ H Q h => by
    obtain ⟨ρ, st, es, d, st', R, Er, hm, k⟩ := h
    obtain ⟨x, s1, h1, hm1⟩ := bind_some hm
    obtain ⟨u, s2, h2, hm2⟩ := bind_some hm1
    obtain ⟨xs, s3, h3, h4⟩ := bind_some hm2
    refine ⟨ρ, st, es, x, s1, R, Er, h1, fun ρ1 v1 H1 e1 R1 d1 => ?_⟩
    cases x with
    | ref n =>
      have h5 : (match s1[n]? with | some (.lst _) => some (true, s1) | _ => none) = some (u, s2) := h2
      split at h5
      · rename_i ds hn
        cases h5
        obtain ⟨p, vs, rfl, hp, q1, q2⟩ := R1.lst d1 hn
        refine ⟨.inl ⟨rfl, vs, SqL.of q1⟩, ρ1, _, es, xs, s3, R1, Er.ext R e1, h3, fun ρ2 ws H2 e2 R2 d2 => ⟨ρ2, s3, .ref n, xs, d, st', R2, DR.ext R1 e2 _ _ d1, d2, h4, fun ρ3 v3 H3 e3 R3 d3 => k ρ3 v3 H3 ((e1.trans e2).trans e3) R3 d3⟩⟩
      · cases h5
    | _ => cases h2
end
end Mx


/-! Mx10: defs by the store, and their calls; repr. -/
namespace Mx
open PySem PySem.Spec L2
variable {T : List (Addr × Str)}

/-! ### a def, by its body -/
def runB (n : Nat) (b : Es → M (Es × Fl)) (as : List D) : M D := do
  let p ← b (as.map some ++ List.replicate (n - as.length) none)
  match p.2 with
    | .rt d => pure d
    | .nx => pure .non
    | _ => fail
/-- np parameters, n names -/
def fnD (np n : Nat) (b : Es → M (Es × Fl)) (as : List D) : M D := fun st => if as.length = np then runB n b as st else none
/-- room, and no repr under way -/
structure Rm (k : Nat) (A : Around) : Prop where
  r : Room k A
  g : A.guards = some []
theorem Rm.mono {j k : Nat} {A : Around} (h : Rm k A) (l : j ≤ k) : Rm j A := ⟨h.r.mono l, h.g⟩
theorem Rm.deeper {k : Nat} {A : Around} (h : Rm (k + 1) A) (env : Env) : Rm k (A.deeper env) := ⟨h.r.deeper env, h.g⟩
/-- the promise of a def: it answers as g says -/
structure FnM (T : List (Addr × Str)) (P : Program) (w : World) (K : PySem.W.Frag) (mg : Str → Option Value) (base : Heap) (k : Nat) (f : Addr) (fd : FuncData) (ps : List Str) (g : List D → M D) : Prop where
  len : ∀ as st r, g as st = some r → as.length = ps.length
  go : ∀ (A : Around) (out : List Env) (s : Shared) (H : Hp) (args : Args) (us : List Value) (vs : List V) (Q : VK), Rm k A → Env0 P w K mg base A out s H → BindsTo s fd args (ps.zip us) → Vals vs us → rnM T K g vs H Q →
    codeAny (model P w) A (.call (.ref f) args) (CR CX0 out P w H s Q E0) s
section
variable {P : Program} {w : World} {K : PySem.W.Frag} {mg : Str → Option Value} {base : Heap} {k : Nat} {f : Addr} {fd : FuncData} {ps : List Str} {g : List D → M D}
theorem FnM.mono {j : Nat} (F : FnM T P w K mg base j f fd ps g) (h : j ≤ k) : FnM T P w K mg base k f fd ps g := ⟨F.len, fun A out s H args us vs Q r => F.go A out s H args us vs Q (r.mono h)⟩
theorem ER.start {ρ : List Addr} {H : Hp} {as : List D} {vs : List V} (n : Nat) (h : DRs K ρ H as vs) : ER K ρ H (as.map some ++ List.replicate (n - as.length) none) (vs.map some ++ List.replicate (n - vs.length) none) := by
  have hl := h.length
  refine ⟨by simp [hl], fun i d hi => ?_⟩
  by_cases hlt : i < as.length
  · rw [List.getElem?_append_left (by simpa using hlt), List.getElem?_map] at hi
    cases q : as[i]? with
    | none => rw [q] at hi; cases hi
    | some e =>
      rw [q] at hi
      have e' : e = d := Option.some.inj (Option.some.inj hi)
      subst e'
      obtain ⟨v, h1, h2⟩ := h.get q
      exact ⟨v, by rw [List.getElem?_append_left (by simpa [hl] using hlt), List.getElem?_map, h1]; rfl, h2⟩
  · rw [List.getElem?_append_right (by simpa using Nat.le_of_not_lt hlt), List.getElem?_replicate] at hi
    split at hi <;> cases hi
theorem runB_done {n : Nat} {b : Es → M (Es × Fl)} {as : List D} {st st' : S} {d : D} (h : runB n b as st = some (d, st')) : ∃ es f, b (as.map some ++ List.replicate (n - as.length) none) st = some ((es, f), st') ∧ (f = .rt d ∨ (f = .nx ∧ d = .non)) := by
  obtain ⟨⟨es, f⟩, s1, h1, h2⟩ := bind_some h
  cases f with
  | rt x => obtain ⟨rfl, rfl⟩ := pure_some h2; exact ⟨es, _, h1, .inl rfl⟩
  | nx => obtain ⟨rfl, rfl⟩ := pure_some h2; exact ⟨es, _, h1, .inr ⟨rfl, rfl⟩⟩
  | bk => cases h2
  | ct => cases h2
theorem fnD_some {np n : Nat} {b : Es → M (Es × Fl)} {as : List D} {st st' : S} {d : D} (h : fnD np n b as st = some (d, st')) : as.length = np ∧ runB n b as st = some (d, st') := by
  unfold fnD at h
  split at h
  · exact ⟨by assumption, h⟩
  · cases h
theorem FnM.ofC {x qual : Str} {st : Stmt} {N : List Str} {b : Es → M (Es × Fl)} {oc kV doc pm cdv ct : Value} {od an : Option Addr} {osl : Array (Option Value)} (lk : K.lookup f = some ⟨oc, od, .func (PySem.W.fnOf x qual (defArgs st) (defBody st) (defScope st) .none kV doc pm an cdv ct), osl⟩)
    (hcd : PySem.W.codeIn K cdv qual = true) (S : FnScope N ps (defScope st)) (hb : ∀ (A : Around) (out : List Env) (s : Shared) (H : Hp), Rm k (A.deeper (PyProof.Rows.envOfC qual (defScope st) s.heap.objs.size f cdv)) → PSs (cxOf CX0 P w K mg base N qual (defScope st) f cdv A out s H E0).nox (defBody st) (sM T K b)) :
    FnM T P w K mg base (k + 1) f (PySem.W.fnOf x qual (defArgs st) (defBody st) (defScope st) .none kV doc pm an cdv ct) ps (fnD ps.length N.length b) := by
  refine ⟨fun as st r h => (fnD_some (d := r.1) (st' := r.2) h).1, fun A out s H args us vs Q hr e0 bd rv h => ?_⟩
  obtain ⟨ρ, st0, as, d, st', R, ha, hg, kQ⟩ := h
  obtain ⟨hal, hrun⟩ := fnD_some hg
  have hvl : vs.length = ps.length := by rw [ha.length, hal]
  have KX : K.In s.heap := e0.mod.kin.keeps fun b o e => (e0.bs b o e).1
  have lim : s.heap.NoLimit := e0.mod.nolimit.keeps fun b o e => (e0.bs b o e).1
  have hkind : ∀ y ∈ ps.zip us, (defScope st).names.lookup y.1 = some .local ∨ ((defScope st).names.lookup y.1 = some .cell ∧ ((cellsFrom (s.heap.objs.size + 1) (defScope st).names []).lookup y.1).isSome = true) := by
    intro y hy
    rcases S.par y.1 (List.of_mem_zip (show (y.1, y.2) ∈ ps.zip us from hy)).1 with q | q
    · exact .inl q
    · exact .inr ⟨q, PySem.W.cellsFrom_some _ _ _ (.inl q)⟩
  refine codeAny_call_function hr.r.depth (KX _ _ lk) rfl S.co S.gen rfl (PySem.W.codeRec_of KX hcd) (bd _ _ _ _ (wpAny_newFunctionEnv_cells S.kind hkind fun env he s1 y => ?_))
  subst he
  refine ⟨lim.keeps y.toInCall.keep, codeAny_func ?_⟩
  have I : L2.Inv (cxOf CX0 P w K mg base N qual (defScope st) f cdv A out s H E0) [] (start N vs) H s1 := inv_start S hr.r.hd e0 hvl rv y
  have body := (hb A out s H (hr.deeper _)).nox
  have hq : sM T K b { nx := fun _ H' => Q .non H', rt := Q } (start N vs) H := by
    obtain ⟨es, fl, h1, h2⟩ := runB_done hrun
    refine ⟨ρ, st0, _, es, fl, st', R, ER.start N.length ha, h1, ?_⟩
    rcases h2 with rfl | ⟨rfl, rfl⟩
    · exact kQ
    · exact fun ρ' σ' H' e R' _ => kQ ρ' .non H' e R' (by rw [DR])
  refine wpAny_mono (body.run [] s1 (start N vs) H _ I hq) (fun fl s' hs => ?_) fun e s' hs => hs
  cases fl with
  | ret u =>
    obtain ⟨v, σ', H', J, r1, q⟩ := hs
    exact ⟨v, H', J.os, J.bare, J.base, J.hok, r1, q⟩
  | next =>
    obtain ⟨σ', H', J, q⟩ := hs
    exact ⟨V.non, H', J.os, J.bare, J.base, J.hok, rfl, q⟩
  | brk => exact hs.elim fun _ z => z.elim fun _ z => z.2.elim
  | cont => exact hs.elim fun _ z => z.elim fun _ z => z.2.elim
theorem FnM.of {x qual : Str} {st : Stmt} {N : List Str} {b : Es → M (Es × Fl)} (F : Fun K x qual st f fd) (S : FnScope N ps (defScope st))
    (hb : ∀ (cdv : Value) (A : Around) (out : List Env) (s : Shared) (H : Hp), Rm k (A.deeper (PyProof.Rows.envOfC qual (defScope st) s.heap.objs.size f cdv)) → PSs (cxOf CX0 P w K mg base N qual (defScope st) f cdv A out s H E0).nox (defBody st) (sM T K b)) :
    FnM T P w K mg base (k + 1) f fd ps (fnD ps.length N.length b) := by
  obtain ⟨oc, od, kV, doc, pm, an, cdv, ct, osl, e, lk, hcd⟩ := F.ex
  subst e
  exact FnM.ofC lk hcd S (hb cdv)
end

/-! ### calls -/
section
variable {X : Cx} {k : Nat} {f : Addr} {fd : FuncData} {ps : List Str} {g : List D → M D} {pos p : Pos} {x : Str} {e : Expr} {es : List Expr} {ma : Es → M (List D)}
theorem FnM.run {pins : List (Addr × Obj)} {σ : St} {H : Hp} {s : Shared} {Q : VK} {args : Args} {us : List Value} {vs : List V} (F : FnM T X.prog X.w X.K X.mg X.base k f fd ps g) (hr : Rm k X.A) (I : L2.Inv X pins σ H s) (hb : BindsTo s fd args (ps.zip us)) (r : Vals vs us) (h : rnM T X.K g vs H Q) :
    codeAny (model X.prog X.w) X.A (.call (.ref f) args) (fun r s' => match r with
      | .ok (.ret u) => EP X pins σ Q u s'
      | .ok _ => False
      | .error e => X.xe e s') s :=
  codeAny_mono (F.go X.A X.stack s H args us vs Q hr I.env0 hb r h) fun r s' hq => by
    cases r with
    | error e => exact hq.elim
    | ok fl => cases fl with
      | ret u => exact I.after hq
      | _ => exact hq.elim
theorem FnM.ask {pins : List (Addr × Obj)} {σ : St} {H : Hp} {s : Shared} {Q : VK} {us ws : List Value} {kw : List (Str × Value)} {vs : List V} (F : FnM T X.prog X.w X.K X.mg X.base k f fd ps g) (hr : Rm k X.A) (I : L2.Inv X pins σ H s) (hb : BindsTo s fd ⟨us, kw⟩ (ps.zip ws)) (r : Vals vs ws) (h : rnM T X.K g vs H Q) :
    wpAny (model X.prog X.w) X.A (call (.ref f) us kw) (EP X pins σ Q) X.xe s :=
  wpAny_call (codeAny_mono (F.run hr I hb r h) fun r s' hq => by
    cases r with
    | error e => exact hq
    | ok fl => cases fl with
      | ret u => exact hq
      | _ => exact hq.elim)
theorem fcall (F : FnM T X.prog X.w X.K X.mg X.base k f fd ps g) (hr : Rm k X.A) (hg : Gl X x) (hm : X.mg x = some (.ref f)) (hk : PySem.W.keepIn X.K (.ref f) = true) (hb : Binds X.K fd ps [])
    (ha : PA X (e :: es) (aM T X.K ma)) (hdb : (x == ("__debug__" : Str)) = false := by decide) (he : starEach (e :: es) X.env = (false, eval e X.env) :: starEach es X.env := by rfl) (hpl : (backTo pos (starEach es X.env)).any (·.1) = false := by rfl) :
    PE X (.Call (.Name x p) (e :: es) [] pos) (eM T X.K (callD g ma)) := by
  refine ⟨fun pins s σ H Q I h => wpAny_Call_Name_kw (ld_glob I hg hm (PySem.W.callWith_K (h₀ := X.base) I.ok.mod.kin hk (thn (ha.run pos pins s σ H _ I (call_of (fun _ _ _ q => q) h)) fun us s1 ⟨vs, H1, I1, r, q⟩ => ⟨I1.kIn, ?_⟩) he hpl) hdb)⟩
  have hl : (us ++ []).length = ps.length := by
    obtain ⟨ρ, st, as, d, st', R, h1, h2, _⟩ := q
    rw [List.append_nil, ← r.length, h1.length]
    exact F.len as st _ h2
  have bd := hb s1 us I1.kIn hl
  rw [List.append_nil] at bd
  exact F.ask hr I1 bd r q
theorem fcall0 (F : FnM T X.prog X.w X.K X.mg X.base k f fd ps g) (hr : Rm k X.A) (hg : Gl X x) (hm : X.mg x = some (.ref f)) (hk : PySem.W.keepIn X.K (.ref f) = true) (hb : Binds X.K fd ps [])
    (hdb : (x == ("__debug__" : Str)) = false := by decide) : PE X (.Call (.Name x p) [] [] pos) (eM T X.K (callD g nilA)) := by
  refine ⟨fun pins s σ H Q I h => wpAny_Call_Name_kw (ld_glob I hg hm (PySem.W.callWith_K0 I.kIn hk ?_) hdb)⟩
  have q : rnM T X.K g [] H Q := nilA_of (call_of (fun _ _ _ q => q) h)
  have hl : (([] : List Value) ++ []).length = ps.length := by
    obtain ⟨ρ, st, as, d, st', R, h1, h2, _⟩ := q
    have := F.len as st _ h2
    rw [← this, ← h1.length]; rfl
  have bd := hb s [] I.kIn hl
  exact F.ask hr I bd .nil q
end

/-! ### calls by keywords alone -/
/-- the values in the parameters' order -/
structure Ord (w : {α : Type} → List α → List α) : Prop where
  vals : ∀ {vs : List V} {us : List Value}, Vals vs us → Vals (w vs) (w us)
  drs : ∀ {K : PySem.W.Frag} {ρ : List Addr} {H : Hp} {ds : List D} {vs : List V}, DRs K ρ H ds vs → DRs K ρ H (w ds) (w vs)
  len : ∀ {α : Type} (l : List α), (w l).length = l.length
def sameO {α : Type} (l : List α) : List α := l
def swapO {α : Type} : List α → List α
  | [a, b] => [b, a]
  | l => l
theorem ord_same : Ord (fun {α} => sameO (α := α)) := ⟨fun h => h, fun h => h, fun _ => rfl⟩
theorem ord_swap : Ord (fun {α} => swapO (α := α)) := by
  refine ⟨fun {vs us} h => ?_, fun {K ρ H ds vs} h => ?_, fun {α} l => ?_⟩
  · cases h with
    | nil => exact .nil
    | cons a r => cases r with
      | nil => exact .cons a .nil
      | cons b r => cases r with
        | nil => exact .cons b (.cons a .nil)
        | cons c r => exact .cons a (.cons b (.cons c r))
  · match ds, h with
    | [], h => rw [DRs] at h; subst h; exact DRs.nil
    | [a], h => obtain ⟨v, rfl, q⟩ := h.one; exact DRs.cons q DRs.nil
    | [a, b], h => obtain ⟨v, w, rfl, q, r⟩ := h.two; exact DRs.cons r (DRs.cons q DRs.nil)
    | a :: b :: c :: ds, h =>
      have hl := h.length
      match vs, hl with
      | v :: w :: x :: vs, _ => exact h
      | [], hl => simp at hl
      | [_], hl => simp at hl
      | [_, _], hl => simp at hl
  · match l with
    | [] => rfl
    | [_] => rfl
    | [_, _] => rfl
    | _ :: _ :: _ :: _ => rfl
/-- how a call by keywords alone binds -/
def KwB (K : PySem.W.Frag) (fd : FuncData) (ps ks : List Str) (w : {α : Type} → List α → List α) : Prop := ∀ (s : Shared) (us : List Value), us.length = ps.length → BindsTo s fd ⟨[], ks.zip us⟩ (ps.zip (w us))
section
variable {X : Cx} {k : Nat} {f : Addr} {fd : FuncData} {ps ks : List Str} {g : List D → M D} {pos p : Pos} {x : Str} {kws : List Keyword} {ma : Es → M (List D)} {w : {α : Type} → List α → List α}
theorem fcallKw (F : FnM T X.prog X.w X.K X.mg X.base k f fd ps g) (hr : Rm k X.A) (hg : Gl X x) (hm : X.mg x = some (.ref f)) (hk : PySem.W.keepIn X.K (.ref f) = true) (hb : KwB X.K fd ps ks w) (o : Ord w)
    (ha : PK X kws (aM T X.K ma)) (hdb : (x == ("__debug__" : Str)) = false := by decide) (hall : (backToKw pos (keywordEach kws X.env)).all (·.1.isSome) = true := by rfl) (hks : (backToKw pos (keywordEach kws X.env)).filterMap (·.1) = ks := by rfl)
    (hpl : ((backTo pos (starEach [] X.env)).any (·.1) || (backToKw pos (keywordEach kws X.env)).any (·.1.isNone)) = false := by rfl) :
    PE X (.Call (.Name x p) [] kws pos) (eM T X.K (callKD g w ma)) := by
  refine ⟨fun pins s σ H Q I h => wpAny_Call_Name_kw (ld_glob I hg hm ?_ hdb)⟩
  refine PySem.W.callWith_KW0 (h₀ := X.base) I.ok.mod.kin hk hall ?_ hpl
  have h' : aM T X.K ma σ H fun vs H1 => rnM T X.K g (w vs) H1 Q := by
    obtain ⟨ρ, st, es, d, st', R, Er, hm, kk⟩ := h
    obtain ⟨xs, s1, h1, h3⟩ := bind_some hm
    exact ⟨ρ, st, es, xs, s1, R, Er, h1, fun ρ1 v1 H1 e1 R1 d1 => ⟨ρ1, s1, w xs, d, st', R1, o.drs d1, h3, fun ρ3 v3 H3 e3 R3 d3 => kk ρ3 v3 H3 (e1.trans e3) R3 d3⟩⟩
  refine thn (ha.run pos pins s σ H _ I h') fun us s1 ⟨vs, H1, I1, r, q⟩ => ⟨I1.kIn, ?_⟩
  rw [hks]
  have hl : us.length = ps.length := by
    obtain ⟨ρ, st, as, d, st', R, h1, h2, _⟩ := q
    have e := F.len as st _ h2
    rw [← r.length, ← o.len vs, h1.length, e]
  exact F.ask hr I1 (hb s1 us hl) (o.vals r) q
end

/-! ### repr -/
def reprD (x : D) : M D := fun st => match toPy st 64 x with
  | some p => if p.showable && decide (p.shown.length ≤ sizeLine) then some (.str p.shown, st) else none
  | none => none
section
variable {X : Cx}
theorem call_reprM (hg : X.A.guards = some []) (hu : X.A.units + 70 < cLine) : CallR X (.builtin "repr") (rnM T X.K (on1 reprD)) := by
  intro pins s σ H xs us Q I rs ⟨ρ, st, as, d, st', R, ha, hm, k⟩
  obtain ⟨x, rfl, hm1⟩ := on1_some hm
  obtain ⟨v, rfl, h1⟩ := ha.one
  unfold reprD at hm1
  split at hm1
  · rename_i p hp
    split at hm1
    · rename_i hz
      cases hm1
      rw [Bool.and_eq_true, decide_eq_true_eq] at hz
      have P := toPy_ok R 64 x v p h1 hp
      have q : Q (.str p.shown) H := k.now R (by rw [DR])
      cases rs with
      | cons r1 rr =>
        cases rr
        rename_i u
        have fin : ∀ (t : Tok) (tk : Nat), EP X pins σ Q (.str p.shown t) { s with toks := tk } := fun t tk => ⟨.str p.shown, H, I.tok tk, ⟨t, rfl⟩, q⟩
        obtain ⟨rd, hrd⟩ := P.dp.reads I p v u r1
        have hdepth := P.deep
        cases u with
        | ref a =>
          refine repr_of_reads' hrd hz.1 (PyData.noDict_hsm (PyData.hasDict_of_canLay p P.lay)) hg (by omega) (fun _ _ q => q) (fun h' t tk hk => ?_) hz.2
          exact ⟨.str p.shown, H, I.kept (t' := tk) hk, ⟨t, rfl⟩, q⟩
        | none => cases hrd; exact PySem.P.repr_of_none (fin _ _)
        | bool b => cases hrd; exact PySem.P.repr_of_bool (fin _ _)
        | int i t => cases hrd; exact PySem.P.repr_of_int (of_decide_eq_true hz.1) (fin _ _)
        | str x t => cases hrd; exact PySem.P.repr_of_str (fin _ _) hz.2
        | _ => cases hrd
    · cases hm1
  · cases hm1
end
end Mx


/-! Mx11: op=, dict displays, sorted(set(..)). -/
namespace Mx
open PySem PySem.Spec L2
variable {T : List (Addr × Str)}

/-! ### name op= e -/
section
variable {prog : Program} {w : World} {A : Around} {E : Value → Shared → Prop} {s : Shared}
theorem noI_tuple : typeLookup (.type "tuple") (dunderI "add") = pure none := by rw [typeLookup_type, builtinLookup_eq_fast]; kernel_rfl
/-- t += u is t + u, for tuples -/
theorem ipl_tup {a b : Value} {Q : Value → Shared → Prop} (ha : s.TypeIs a "tuple") (hb : s.TypeIs b "tuple") (h : wpAny (model prog w) A (call (.builtin "tuple.__add__") [a, b]) Q E s) : wpAny (model prog w) A (inplaceOp .Add a b) Q E s :=
  wpAny_inplaceOp_concat ha hb noI_tuple noFill_tuple_add seq_tuple_add h
theorem ipl_cat {t b : Addr} {vs ws : List Value} {Q : Value → Shared → Prop} (ht : PyProof.Rows.IsTup s.heap t vs.toArray) (hb : PyProof.Rows.IsTup s.heap b ws.toArray)
    (h0 : vs = [] → Q (.ref b) s) (h1 : vs ≠ [] → ws = [] → Q (.ref t) s) (h2 : vs ≠ [] → ws ≠ [] → Q (.ref s.heap.objs.size) { s with heap := s.heap.push { cls := .type "tuple", data := .seq (vs ++ ws).toArray } })
    (hz : vs.length + ws.length ≤ sizeLine) : wpAny (model prog w) A (inplaceOp .Add (.ref t) (.ref b)) Q E s := by
  obtain ⟨⟨oc, od, odat, osl⟩, o1, c1, n1, d1⟩ := id ht
  obtain ⟨⟨pc, pd, pdat, psl⟩, o2, c2, n2, d2⟩ := id hb
  dsimp only at c1 d1 c2 d2
  subst c1 d1 c2 d2
  refine ipl_tup ⟨_, o1, rfl⟩ ⟨_, o2, rfl⟩ ?_
  by_cases hv : vs = []
  · exact call_meets PySem.F.slot_tuple_add ⟨_, o1, rfl⟩ PySem.F.entry_tuple_add (PySem.F.args_tuple_add_2 _ _) (PyProof.Rows.tuple_addW0 t b vs.toArray ws.toArray n1 n2 od pd osl psl (by simp [hv])) ⟨o1, o2, h0 hv⟩
  · by_cases hw : ws = []
    · exact call_meets PySem.F.slot_tuple_add ⟨_, o1, rfl⟩ PySem.F.entry_tuple_add (PySem.F.args_tuple_add_2 _ _) (PyProof.Rows.tuple_addW1 t b vs.toArray ws.toArray n1 n2 od pd osl psl (by simpa using hv) (by simp [hw])) ⟨o1, o2, h1 hv hw⟩
    · refine call_meets PySem.F.slot_tuple_add ⟨_, o1, rfl⟩ PySem.F.entry_tuple_add (PySem.F.args_tuple_add_2 _ _) (PyProof.Rows.tuple_addW2 t b vs.toArray ws.toArray n1 n2 od pd osl psl (by simpa using hv) (by simpa using hw) (by rw [List.size_toArray, List.size_toArray]; exact hz)) ⟨o1, o2, ?_⟩
      rw [show vs.toArray ++ ws.toArray = (vs ++ ws).toArray by simp]
      exact h2 hv hw
end
section
variable {X : Cx}
theorem iop_tupA : OpR X (inplaceOp .Add) (rCatA X.K) := by
  intro pins s σ H x y v u Q I rx ry ⟨a, b, xs, ys, e1, e2, ha, hb, hz, q0, q1, q2⟩
  subst e1 e2
  cases rx
  cases ry
  obtain ⟨its, r1, p1, _⟩ := I.tuple ha
  obtain ⟨its2, r2, p2, _⟩ := I.tuple hb
  have n1 := r1.nil_iff
  have n2 := r2.nil_iff
  refine ipl_cat p1 p2 (fun z => ⟨.ref b, H, I, rfl, q0 (n1.mp z)⟩) (fun z y => ⟨.ref a, H, I, rfl, q1 (fun c => z (n1.mpr c)) (n2.mp y)⟩) (fun z y => ?_) (by rw [← r1.length, ← r2.length]; exact hz)
  exact ⟨.ref s.heap.objs.size, _, I.laid (t' := s.toks) (o := .tup (xs ++ ys)) (fun b ob q => Heap.get?_push_of_some _ q) (Nat.le_refl _) ⟨by rw [List.length_append]; exact hz, _, r1.append r2, PyProof.Rows.IsTup.new _ _⟩, rfl, q2 (fun c => z (n1.mpr c)) (fun c => y (n2.mpr c)) _ (I.hok.fresh (Nat.le_refl _))⟩
def iaddD : D → D → M D
  | .int i, .int j => pure (.int (i + j))
  | .str x, .str y => do
    guardM (decide (x.length + y.length ≤ sizeLine))
    pure (.str (x ++ y))
  | .tup xs, .tup ys => do
    guardM (decide (xs.length + ys.length ≤ sizeLine))
    pure (.tup (xs ++ ys))
  | .ref n, .ref m => do
    let xs ← lstAt n
    let ys ← lstAt m
    guardM (decide (xs.length + ys.length ≤ sizeLine))
    putAt n (.lst (xs ++ ys))
    pure (.ref n)
  | _, _ => fail
theorem iop_addM : OpR X (inplaceOp .Add) (r2M T X.K iaddD) := by
  intro pins s σ H x y v u Q I rx ry ⟨ρ, st, a, b, d, st', R, ha, hb, hg, k⟩
  unfold iaddD at hg
  split at hg
  · obtain ⟨rfl, rfl⟩ := pure_some hg
    exact iop_add pins s σ H x y v u Q I rx ry ⟨_, _, ha.int, hb.int, k.now R (by rw [DR])⟩
  · obtain ⟨hz, hg⟩ := guarded hg
    obtain ⟨rfl, rfl⟩ := pure_some hg
    exact iop_add_str pins s σ H x y v u Q I rx ry ⟨_, _, ha.str, hb.str, of_decide_eq_true hz, k.now R (by rw [DR])⟩
  · obtain ⟨hz, hg⟩ := guarded hg
    obtain ⟨rfl, rfl⟩ := pure_some hg
    exact add_tup iop_tupA I rx ry R ha hb (of_decide_eq_true hz) k
  · obtain ⟨xs, s1, h1, hg1⟩ := bind_some hg
    obtain ⟨e1, rfl⟩ := lstAt_some h1
    obtain ⟨ys, s2, h2, hg2⟩ := bind_some hg1
    obtain ⟨e2, rfl⟩ := lstAt_some h2
    obtain ⟨hz, hg3⟩ := guarded hg2
    obtain ⟨a, vs, rfl, hp, q1, q2⟩ := R.lst ha e1
    obtain ⟨b, ws, rfl, _, q3, q4⟩ := R.lst hb e2
    cases hg3
    have hz' := of_decide_eq_true hz
    refine iop_ext pins s σ H _ _ v u Q I rx ry ⟨a, b, vs, ws, rfl, rfl, q1, q3, by rw [q2.length, q4.length]; exact hz', ?_⟩
    exact k ρ _ _ (Ext.put R hp) (R.put hp fun H' e x => ⟨_, e, (DRs.ext R x _ _ q2).append (DRs.ext R x _ _ q4)⟩) (DR.ext R (Ext.put R hp) _ _ ha)
  · cases hg
def augS (i : Nat) (me : Es → M D) (g : D → D → M D) : Es → M (Es × Fl) := fun es => do
  let x ← varD i es
  let y ← me es
  let z ← g x y
  pure (es.set i (some z), .nx)
theorem saug (i : Nat) {x : Str} {e : Expr} {me : Es → M D} {op : Operator} {pos pos' : Pos} {g : D → D → M D} (ho : OpR X (inplaceOp op) (r2M T X.K g)) (hN : X.N.Nodup) (he : PE X e (eM T X.K me)) (hi : X.N[i]? = some x := by rfl) (hx : Loc X.env.scope x := by first | exact Or.inl rfl | exact Or.inr rfl)
    (hf : X.fn x = true ∨ X.env.scope.names.lookup x = some .local := by first | exact .inl rfl | exact .inr rfl) : PS X (.AugAssign (.Name x pos') op e pos) (sM T X.K (augS i me g)) :=
  PS.as (ps_aug (ti := r2M T X.K g) hN hi hx he (fun pins s σ H x y v u Q I rx ry h => ho pins s σ H x y v u Q I rx ry h) hf) fun E σ H h => by
    obtain ⟨ρ, st, es, es', f, st', R, Er, hm, k⟩ := h
    obtain ⟨a, s1, h1, hm1⟩ := bind_some hm
    obtain ⟨h1', rfl⟩ := varD_some h1
    obtain ⟨b, s2, h2, hm2⟩ := bind_some hm1
    obtain ⟨c, s3, h3, h4⟩ := bind_some hm2
    obtain ⟨rfl, rfl, rfl⟩ := pair_some h4
    obtain ⟨v, hv, dv⟩ := Er.2 i a h1'
    exact ⟨v, hv, ρ, _, es, b, s2, R, Er, h2, fun ρ1 v1 H1 e1 R1 d1 => ⟨ρ1, s2, a, b, c, _, R1, DR.ext R e1 _ _ dv, d1, h3, fun ρ3 v3 H3 e3 R3 d3 => k ρ3 _ H3 (e1.trans e3) R3 ((Er.ext R (e1.trans e3)).set d3)⟩⟩
end

/-! ### sorted(set(t)) of ints -/
def insU (k : Int) : List Int → List Int
  | [] => [k]
  | x :: r => if k < x then k :: x :: r else if k = x then x :: r else x :: insU k r
def uniqI : List Int → List Int
  | [] => []
  | k :: r => insU k (uniqI r)
theorem mem_insU {k j : Int} : ∀ {l : List Int}, j ∈ insU k l ↔ j = k ∨ j ∈ l
  | [] => by simp [insU]
  | x :: r => by
    unfold insU
    by_cases h : k < x
    · rw [if_pos h]; simp
    · rw [if_neg h]
      by_cases h2 : k = x
      · rw [if_pos h2]; subst h2; simp
      · rw [if_neg h2, List.mem_cons, mem_insU, List.mem_cons]
        constructor
        · rintro (h | h | h)
          · exact .inr (.inl h)
          · exact .inl h
          · exact .inr (.inr h)
        · rintro (h | h | h)
          · exact .inr (.inl h)
          · exact .inl h
          · exact .inr (.inr h)
theorem insU_sorted {k : Int} : ∀ {l : List Int}, l.Pairwise (· < ·) → (insU k l).Pairwise (· < ·)
  | [], _ => by simp [insU]
  | x :: r, h => by
    obtain ⟨h1, h2⟩ := List.pairwise_cons.mp h
    unfold insU
    by_cases hk : k < x
    · rw [if_pos hk]
      refine List.pairwise_cons.mpr ⟨fun y hy => ?_, h⟩
      rcases List.mem_cons.mp hy with e | e
      · rw [e]; exact hk
      · exact Int.lt_trans hk (h1 y e)
    · rw [if_neg hk]
      by_cases h3 : k = x
      · rw [if_pos h3]; exact h
      · rw [if_neg h3]
        refine List.pairwise_cons.mpr ⟨fun y hy => ?_, insU_sorted h2⟩
        rcases mem_insU.mp hy with e | e
        · rw [e]; omega
        · exact h1 y e
theorem mem_uniqI {j : Int} : ∀ {l : List Int}, j ∈ uniqI l ↔ j ∈ l
  | [] => by simp [uniqI]
  | k :: r => by rw [uniqI, mem_insU, mem_uniqI, List.mem_cons]
theorem uniqI_sorted : ∀ l : List Int, (uniqI l).Pairwise (· < ·)
  | [] => .nil
  | k :: r => insU_sorted (uniqI_sorted r)
theorem sorted_same : ∀ {l m : List Int}, l.Pairwise (· < ·) → m.Pairwise (· < ·) → (∀ k, k ∈ l ↔ k ∈ m) → l = m
  | [], [], _, _, _ => rfl
  | [], y :: m, _, _, h => by have := (h y).mpr (List.mem_cons_self ..); simp at this
  | x :: l, [], _, _, h => by have := (h x).mp (List.mem_cons_self ..); simp at this
  | x :: l, y :: m, hl, hm, h => by
    obtain ⟨l1, l2⟩ := List.pairwise_cons.mp hl
    obtain ⟨m1, m2⟩ := List.pairwise_cons.mp hm
    have e : x = y := by
      rcases List.mem_cons.mp ((h x).mp (List.mem_cons_self ..)) with e | e
      · exact e
      · rcases List.mem_cons.mp ((h y).mpr (List.mem_cons_self ..)) with e2 | e2
        · exact e2.symm
        · have a := m1 x e
          have b := l1 y e2
          omega
    subst e
    have e2 : l = m := sorted_same l2 m2 fun k => by
      constructor
      · intro hk
        rcases List.mem_cons.mp ((h k).mp (List.mem_cons_of_mem _ hk)) with e | e
        · have := l1 k hk; omega
        · exact e
      · intro hk
        rcases List.mem_cons.mp ((h k).mpr (List.mem_cons_of_mem _ hk)) with e | e
        · have := m1 k hk; omega
        · exact e
    rw [e2]
def rSetTup (K : PySem.W.Frag) (w : World) : List V → Hp → VK → Prop := fun xs H Q => ∃ (p : Addr) (ns : List Int), xs = [.ref p] ∧ SqT K H p (ns.map V.int) ∧ ns.length < 64 ∧ ∀ (a : Addr) (c : Nat), H a = none → c ≤ ns.length → Q (.ref a) (upd H a (SetO w a (fun j => decide (j ∈ ns)) c))
def ssetD (me : Es → M D) : Es → M D := fun es => do
  let x ← me es
  match x with
    | .tup ds => match intsOf ds with
      | some ns => do
        guardM (decide (ns.length < 64))
        new (.lst ((uniqI ns).map .int))
      | none => fail
    | _ => fail
theorem drs_ints {K : PySem.W.Frag} {ρ : List Addr} {H : Hp} : ∀ ns : List Int, DRs K ρ H (ns.map D.int) (ns.map V.int)
  | [] => DRs.nil
  | n :: r => DRs.cons (by rw [DR]) (drs_ints r)
section
variable {X : Cx}
theorem cr_setTup (hc : X.calm = true) : CallR X (.type "set") (rSetTup X.K X.w) := by
  intro pins s σ H xs us Q I rs ⟨p, ns, e, hq, hl, k⟩
  subst e
  cases rs with
  | cons r rr =>
    cases rr
    cases r
    obtain ⟨its, rv, pt, hz⟩ := I.tuple hq
    refine call_set_tupI ns (I.ok.hd hc) (show s.heap.IsTuple p its.toArray from pt) (ints_of_vals rv) (Nat.lt_of_le_of_lt (Nat.succ_le_of_lt hl) (by decide)) fun h' tk c R1 hcn kp => ?_
    exact ⟨.ref s.heap.objs.size, _, I.laid (t' := tk) kp (Nat.le_refl _) (setO_new R1), rfl, k _ c (I.hok.fresh (Nat.le_refl _)) hcn⟩
theorem mset {a : Expr} {me : Es → M D} {p pos p2 pos2 : Pos} (hc : X.calm = true) (ha : PE X a (eM T X.K me)) (hg : Gl X "sorted" := by rfl) (hm : X.mg "sorted" = none) (hg2 : Gl X "set" := by rfl) (hm2 : X.mg "set" = none)
    (na : starEach [a] X.env = (false, eval a X.env) :: starEach [] X.env := by rfl) (nb : starEach [.Call (.Name "set" p2) [a] [] pos2] X.env = (false, eval (.Call (.Name "set" p2) [a] [] pos2) X.env) :: starEach [] X.env := by rfl) :
    PE X (.Call (.Name "sorted" p) [.Call (.Name "set" p2) [a] [] pos2] [] pos) (eM T X.K (ssetD me)) :=
  PE.as (pe_callB (cr_sortedSet hc) hg hm PyProof.Rows.boot_sorted (pa_cons (pe_callTy (cr_setTup hc) hg2 hm2 PyProof.Rows.boot_set (pa_cons ha pa_nil na) (he := na)) pa_nil nb) (he := nb)) fun σ H Q h => by
    obtain ⟨ρ, st, es, d, st', R, Er, hm, k⟩ := h
    obtain ⟨x, s1, h1, h2⟩ := bind_some hm
    refine ⟨ρ, st, es, x, s1, R, Er, h1, fun ρ1 v1 H1 e1 R1 d1 => ?_⟩
    cases x with
    | tup ds =>
      cases hi : intsOf ds with
      | none => simp only [hi] at h2; cases h2
      | some ns =>
        simp only [hi] at h2
        obtain ⟨hz, h3⟩ := guarded h2
        cases h3
        obtain ⟨a, vs, rfl, q1, q2⟩ := d1.tup
        rw [intsOf_some q2 hi] at q1
        have hz' := of_decide_eq_true hz
        refine ⟨a, ns, rfl, q1, hz', fun b c hb hc => ⟨b, _, c, rfl, upd_same, Nat.lt_of_le_of_lt hc hz', fun ns' p hs hmem _ hp => ?_⟩⟩
        have e : ns' = uniqI ns := sorted_same hs (uniqI_sorted ns) fun j => by rw [hmem j, mem_uniqI, decide_eq_true_eq]
        subst e
        have R2 := R1.any (u := SetO X.w b (fun j => decide (j ∈ ns)) c) hb
        have E2 : Ext ρ1 H1 ρ1 _ := Ext.fresh (u := SetO X.w b (fun j => decide (j ∈ ns)) c) hb
        exact Post.lst R2 (fun ρ3 v3 H3 e3 R3 d3 => k ρ3 v3 H3 ((e1.trans E2).trans e3) R3 d3) (drs_ints _) p hp
    | _ => cases h2
end
end Mx


/-! Mx12: dict displays. -/
namespace Mx
open PySem PySem.Spec L2
variable {T : List (Addr × Str)}

section
variable {K : PySem.W.Frag} {ρ : List Addr} {H : Hp} {st : S} {p : Addr}
theorem Mv.off {u u' : HO} (h : H p = some u) (z : StO u) (nf : ∀ ob v, u ≠ .frz ob v) : Mv ρ H ρ (upd H p u') :=
  ⟨List.prefix_refl _, fun a xs q => by rw [upd_ne (ne_of q h fun y => by subst y; rcases z with ⟨_, z⟩ | ⟨_, z⟩ | ⟨_, z⟩ | ⟨_, _, z⟩ <;> cases z)]; exact q, fun a ob v q => by rw [upd_ne (ne_of q h fun y => nf _ _ y.symm)]; exact q⟩
/-- a thing beside the store is written and joins the store -/
theorem Rel.close (R : Rel T K ρ H st) {u u' : HO} {o : O} (h : H p = some u) (z : StO u) (nf : ∀ ob v, u ≠ .frz ob v) (hp : p ∉ ρ) (ho : OR K (ρ ++ [p]) (upd H p u') p o) : Rel T K (ρ ++ [p]) (upd H p u') (st ++ [o]) := by
  refine ⟨Tabs.put R.tab h z, by rw [List.length_append, List.length_append, R.len]; rfl, ?_, fun i a x hi hx => ?_⟩
  · rw [List.nodup_append]
    refine ⟨R.nd, by simp, fun a ha b hb e => ?_⟩
    have : b = p := by simpa using hb
    subst this; subst e; exact hp ha
  · by_cases hl : i < ρ.length
    · rw [List.getElem?_append_left hl] at hi
      rw [List.getElem?_append_left (by rw [← R.len]; exact hl)] at hx
      have q := R.obj i a x hi hx
      have na : a ≠ p := fun y => hp (y ▸ List.mem_of_getElem? hi)
      exact ((q.mv (Mv.off (ρ := ρ) (u' := u') h z nf) (upd_ne na)).mv (Mv.more (p := p)) rfl)
    · have hle : ρ.length ≤ i := Nat.le_of_not_lt hl
      rw [List.getElem?_append_right hle] at hi
      rw [List.getElem?_append_right (by rw [← R.len]; exact hle)] at hx
      have hi0 : i - ρ.length = 0 := by
        have := (List.getElem?_eq_some_iff.mp hi).1
        simp at this; omega
      have hx0 : i - st.length = 0 := by rw [← R.len]; exact hi0
      rw [hi0] at hi
      rw [hx0] at hx
      simp at hi hx
      subst hi; subst hx
      exact ho
end
def pairsD : List ((Es → M D) × (Es → M D)) → Es → M (List (Key × D))
  | [], _ => pure []
  | p :: r, es => do
    let x ← p.1 es
    let y ← p.2 es
    match keyD x with
      | some k => do
        let rest ← pairsD r es
        pure ((k, y) :: rest)
      | none => fail
def dispD (prs : List ((Es → M D) × (Es → M D))) : Es → M D := fun es => do
  let kvs ← pairsD prs es
  guardM (decide (kvs.length ≤ 15))
  new (.dic (merge [] kvs))
def emptyD : Es → M D := fun _ => new (.dic [])
def emptyT : Es → M D := fun _ => new (.dit [])
theorem KR.merge {κ : Type} [DecidableEq κ] {K : PySem.W.Frag} {ρ : List Addr} {H : Hp} : ∀ {more : List (κ × D)} {ms : List (κ × V)} {ps : List (κ × D)} {ws : List (κ × V)}, KR K ρ H more ms → KR K ρ H ps ws → KR K ρ H (Mx.merge ps more) (ms.foldl (fun acc kv => putK acc kv.1 kv.2) ws)
  | [], _, _, _, h, g => by
    have h' : _ = [] := h
    subst h'
    exact g
  | m :: more, _, ps, ws, ⟨q, r, e, h1, h2, h3⟩, g => by
    subst e
    show KR K ρ H (Mx.merge (Mx.put ps m.1 m.2) more) (r.foldl _ (putK ws q.1 q.2))
    rw [← h1]
    exact KR.merge h3 (g.put m.1 h2)
theorem KR.keys {K : PySem.W.Frag} {ρ : List Addr} {H : Hp} : ∀ {ps : List (Key × D)} {ws : List (Key × V)}, KR K ρ H ps ws → ws.map (·.1) = ps.map (·.1)
  | [], _, h => by
    have h' : _ = [] := h
    rw [h']; rfl
  | p :: ps, _, ⟨q, r, e, h1, h2, h3⟩ => by subst e; rw [List.map_cons, List.map_cons, KR.keys h3, h1]
section
variable {X : Cx} {pos : Pos}
theorem pairs_of {K : PySem.W.Frag} {σ : St} : ∀ (prs : List ((Es → M D) × (Es → M D))) {ρ : List Addr} {H : Hp} {st st' : S} {es : Es} {kvs : List (Key × D)} {Q : List (V × V) → Hp → Prop}, Rel T K ρ H st → ER K ρ H es σ → pairsD prs es st = some (kvs, st') →
    (∀ (ρ' : List Addr) (ws : List (Key × V)) (H' : Hp), Ext ρ H ρ' H' → Rel T K ρ' H' st' → KR K ρ' H' kvs ws → Q (ws.map fun kv => (kV kv.1, kv.2)) H') → tPairs (prs.map fun p => (eM T K p.1, eM T K p.2)) σ H Q
  | [], ρ, H, st, st', es, kvs, Q, R, Er, h, k => by
    obtain ⟨rfl, rfl⟩ := pure_some h
    exact k ρ [] H (Ext.refl _ _) R rfl
  | (mk, mv) :: prs, ρ, H, st, st', es, kvs, Q, R, Er, h, k => by
    obtain ⟨x, s1, h1, h2⟩ := bind_some h
    obtain ⟨y, s2, h3, h4⟩ := bind_some h2
    cases hk : keyD x with
    | none => simp only [hk] at h4; cases h4
    | some key =>
      simp only [hk] at h4
      obtain ⟨rest, s3, h5, h6⟩ := bind_some h4
      obtain ⟨rfl, rfl⟩ := pure_some h6
      refine ⟨ρ, st, es, x, s1, R, Er, h1, fun ρ1 v1 H1 e1 R1 d1 => ⟨ρ1, s1, es, y, s2, R1, Er.ext R e1, h3, fun ρ2 v2 H2 e2 R2 d2 => ?_⟩⟩
      refine pairs_of prs R2 (Er.ext R (e1.trans e2)) h5 fun ρ3 ws H3 e3 R3 kr => ?_
      have e := keyD_of d1 hk
      subst e
      exact k ρ3 ((key, v2) :: ws) H3 ((e1.trans e2).trans e3) R3 (KR.cons rfl (DR.ext R2 e3 _ _ d2) kr)
theorem dnil : PPs X pos [] [] (([] : List ((Es → M D) × (Es → M D))).map fun p => (eM T X.K p.1, eM T X.K p.2)) := pps_nil
theorem dcons {k v : Expr} {ks : List (Option Expr)} {vs : List Expr} {mk mv : Es → M D} {prs : List ((Es → M D) × (Es → M D))} (hk : PE X k (eM T X.K mk)) (hv : PE X v (eM T X.K mv)) (hr : PPs X pos ks vs (prs.map fun p => (eM T X.K p.1, eM T X.K p.2))) :
    PPs X pos (some k :: ks) (v :: vs) (((mk, mv) :: prs).map fun p => (eM T X.K p.1, eM T X.K p.2)) := pps_cons hk hv hr
theorem StO.dk {ws : List (Key × V)} : StO (.dK ws) := .inr (.inl ⟨ws, rfl⟩)
theorem mdisp {keys : List (Option Expr)} {values : List Expr} {prs : List ((Es → M D) × (Es → M D))} (h : PPs X pos keys values (prs.map fun p => (eM T X.K p.1, eM T X.K p.2))) (hall : keys.all (·.isSome) = true := by rfl) (hl : keys.length = values.length := by rfl) (h0 : keys ≠ [] := by simp)
    (h15 : keys.length ≤ 15 := by decide) : PE X (.Dict keys values pos) (eM T X.K (dispD prs)) :=
  PE.as (pe_disp h hall hl h0 h15) fun σ H Q q => by
    obtain ⟨ρ, st, es, d, st', R, Er, hm, k⟩ := q
    obtain ⟨kvs, s1, h1, h2⟩ := bind_some hm
    obtain ⟨hz, h3⟩ := guarded h2
    cases h3
    intro p hp
    have E0 : Ext ρ H ρ (upd H p (.dK [])) := Ext.fresh hp
    have R0 : Rel T X.K ρ (upd H p (.dK [])) st := R.any hp
    have np : p ∉ ρ := fun z => by
      obtain ⟨u, e, _⟩ := R.at z
      rw [hp] at e; cases e
    refine pairs_of prs R0 (Er.ext R E0) h1 fun ρ1 ws H1 e1 R1 kr => ?_
    have hp1 : H1 p = some (.dK []) := e1.keep p _ upd_same np fun _ z => nomatch z
    have np1 : p ∉ ρ1 := fun z => by
      rcases e1.new p z with z | z
      · exact np z
      · rw [upd_same] at z; cases z
    refine ⟨hp1, ws, rfl, by rw [kr.length]; exact of_decide_eq_true hz, ?_⟩
    have nf : ∀ ob v, HO.dK [] ≠ .frz ob v := fun _ _ z => nomatch z
    refine k (ρ1 ++ [p]) _ _ ?_ (R1.close hp1 StO.dk nf np1 ⟨_, upd_same, ?_⟩) (ref_new R1)
    · have e2 := E0.trans e1
      refine ⟨e2.pre.trans (List.prefix_append _ _), fun b hb => ?_, fun a o q hn ht => by rw [upd_ne (ne_of_none q hp)]; exact e2.keep a o q hn ht, fun a ps q => by rw [upd_ne (ne_of_none q hp)]; exact e2.tbl a ps q⟩
      rcases List.mem_append.mp hb with z | z
      · exact e2.new b z
      · have : b = p := by simpa using z
        subst this; exact .inr hp
    · exact KR.merge (KR.mv Mv.more _ _ (KR.mv (Mv.off (ρ := ρ1) hp1 StO.dk nf) _ _ kr)) rfl
theorem mdictK : PE X (.Dict [] [] pos) (eM T X.K emptyD) := PE.as pe_dnewK fun σ H Q q => by
  obtain ⟨ρ, st, es, d, st', R, Er, hm, k⟩ := q
  cases hm
  exact k.dic R rfl
theorem mdictT : PE X (.Dict [] [] pos) (eM T X.K emptyT) := PE.as pe_dnewT fun σ H Q q => by
  obtain ⟨ρ, st, es, d, st', R, Er, hm, k⟩ := q
  cases hm
  exact fun p hp => k (ρ ++ [p]) (.ref p) _ (Ext.new' hp) (R.push hp fun H' e x => ⟨[], e, rfl⟩) (ref_new R)
/-- what is never run -/
def failD {α : Type} : Es → M α := fun _ => fail
theorem mfail {e : Expr} : PE X e (eM T X.K failD) := ⟨fun _ _ _ _ _ _ h => by
  obtain ⟨ρ, st, es, d, st', R, Er, hm, k⟩ := h
  cases hm⟩
theorem mtfail {e : Expr} : PT X e (tM T X.K failD) := ⟨fun _ _ _ _ _ _ h => by
  obtain ⟨ρ, st, es, d, st', R, Er, hm, k⟩ := h
  cases hm⟩
theorem sfail {s0 : Stmt} : PS X s0 (sM T X.K failD) := ⟨fun _ _ _ _ _ _ h => by
  obtain ⟨ρ, st, es, es', f, st', R, Er, hm, k⟩ := h
  cases hm⟩
end
end Mx


/-! Mx13: {**a, **b}. -/
namespace Mx
open PySem PySem.Spec

section
variable {P : Program} {w : World} {κ : Type} [DecidableEq κ] {kn : KeyKind P w κ} {A : Around} {E : Value → Shared → Prop} {s : Shared}
/-- one pair is put into a display's dict -/
theorem put_pair {d : Addr} {have_ : List (κ × Value)} {k : κ} {key v : Value} {Q : Unit → Shared → Prop} (isk : kn.is k key = true) (m : s.heap.DictOf kn d have_)
    (fin : ∀ g, g.DictOf kn d (stored have_ k v) → Heap.SameBut d s.heap g → Q () { s with heap := g }) (hz : have_.length ≤ sizeLine) : wpAny (model P w) A (dictPut d (kn.hash k) key v) Q E s := by
  obtain ⟨ob, en, ep, got, exd, dat, keys, prs, nd⟩ := m
  have esz : en.size ≤ sizeLine := by
    have l1 := prs.length
    rw [Array.length_toList] at l1
    omega
  have same : (en.findIdx? fun e => kn.is k e.key) = have_.findIdx? fun kv => decide (kv.1 = k) := by
    rw [← prs.findIdx k]
    obtain ⟨l⟩ := en
    simp
  unfold dictPut
  refine wpAny_bind (wpAny_dictFind_of isk got dat keys ?_)
  cases fi : en.findIdx? fun e => kn.is k e.key with
  | some i =>
    refine wpAny_updateDict got dat (fin _ ⟨_, _, ep, Heap.get?_update_self _ got (Obj.isFreed_of_dict (Obj.data_mapDict dat _)), exd.mapDict _, Obj.data_mapDict dat _, keys.modify _ _, ?_, ?_⟩ (Heap.SameBut.update ..))
    · have fl : (en.toList.findIdx? fun e => kn.is k e.key) = some i := by
        rw [← fi]
        obtain ⟨l⟩ := en
        simp
      have q := prs.modify nd fl v
      rw [stored, if_pos (any_of_findIdx_some (same ▸ fi))]
      obtain ⟨l⟩ := en
      simpa using q
    · rw [stored, if_pos (any_of_findIdx_some (same ▸ fi)), keys_map_store]
      exact nd
  | none =>
    have out : k ∉ have_.map (·.1) := not_mem_of_findIdx_none (same ▸ fi)
    have no : ¬ (have_.any fun kv => decide (kv.1 = k)) = true := fun z => by
      obtain ⟨kv, h1, h2⟩ := List.any_eq_true.mp z
      exact out (List.mem_map.mpr ⟨kv, h1, of_decide_eq_true h2⟩)
    refine wpAny_updateDictKeys (hz := esz) got dat (fin _ ⟨_, _, ep + 1, Heap.get?_update_self _ got (Obj.isFreed_of_dict (Obj.data_mapDictKeys dat _)), exd.mapDictKeys _, Obj.data_mapDictKeys dat _, keys.push isk _, ?_, ?_⟩ (Heap.SameBut.update ..))
    · have q := prs.append isk (kn.hash k) v
      rw [stored, if_neg no]
      obtain ⟨l⟩ := en
      simpa using q
    · rw [stored, if_neg no, List.map_append]
      refine List.nodup_append.mpr ⟨nd, by simp, fun a ha b hb e => ?_⟩
      have eb : b = k := by simpa using hb
      exact out (eb ▸ e ▸ ha)
end
section
variable {P : Program} {w : World} {A : Around} {E : Value → Shared → Prop} {s : Shared}
theorem sub_dict : isSubtype (.type "dict") (.type "dict") = pure true := by first | rfl | (rw [isSubtype_type]; kernel_rfl)
theorem merge_plain {d o : Addr} {kvs more : List (L2.Key × Value)} {Q : Unit → Shared → Prop} (ndo : d ≠ o) (nos : (o == sysModules) = false) (md : s.heap.DictOf (L2.mixKind P w) d kvs) (mo : s.heap.DictOf (L2.mixKind P w) o more)
    (hz : kvs.length + more.length ≤ sizeLine) (fin : ∀ g, g.DictOf (L2.mixKind P w) d (merged kvs more) → g.DictOf (L2.mixKind P w) o more → Heap.SameBut d s.heap g → Q () { s with heap := g }) : wpAny (model P w) A (mergeMapping d (.ref o) false) Q E s := by
  obtain ⟨od, esd, epd, gd, cd, dd, kd, pd, nd⟩ := id md
  obtain ⟨oo, eso, epo, go, co, dao, ko, po, no⟩ := id mo
  unfold mergeMapping
  refine wpAny_bind (wpAny_isInstance mo.typeIs sub_dict ?_)
  rw [if_pos rfl]
  refine wpAny_bind (wpAny_specialOf mo.typeIs PySem.F.slot_dict_iter.lookup (wpAny_bind (wpAny_pure ?_)))
  rw [beq_self_eq_true]
  dsimp only
  rw [if_neg (by rw [nos]; exact Bool.false_ne_true)]
  refine wpAny_bind (wpAny_dictEntries gd dd ?_)
  have plain : ∀ e ∈ eso.toList, ∀ a, e.key ≠ .ref a := fun e he a z => by
    obtain ⟨k, h1, _⟩ := ko e (by simpa using he)
    rcases L2.keyIs_shape h1 with ⟨i, t, _, q⟩ | ⟨x, t, _, q⟩ <;> (rw [q] at z; cases z)
  have walk : wpAny (model P w) A (do
      let es ← dictEntries o
      let ep ← dictEpoch o
      forIn (List.range es.size) PUnit.unit fun i (_ : PUnit) => (do
        let es2 ← dictEntries o
        match es2[i]? with
          | some e => do
            holding [e.key, e.val] (dictPut d e.hash e.key e.val)
            let ep2 ← dictEpoch o
            if (ep2 != ep) = true then do
              (unsupported "dict.changed-during-merge" : Sem PUnit)
              pure (ForInStep.yield PUnit.unit)
            else pure (ForInStep.yield PUnit.unit)
          | x => do
            (unsupported "dict.changed-during-merge" : Sem PUnit)
            pure (ForInStep.yield PUnit.unit) : Sem (ForInStep PUnit))
      pure ()) Q E s := by
    refine wpAny_bind (wpAny_dictEntries go dao (wpAny_bind (wpAny_dictEpoch go dao (wpAny_bind ?_))))
    have len : more.length = eso.size := by
      have l1 := po.length
      rw [Array.length_toList] at l1
      exact l1.symm
    refine wpAny_forIn_list _ (fun rest _ s1 => ∃ (g : Heap) (i : Nat), s1 = { s with heap := g } ∧ rest = (List.range eso.size).drop i ∧ i ≤ eso.size ∧ g.DictOf (L2.mixKind P w) d (merged kvs (more.take i)) ∧ g.get? o = some oo ∧ Heap.SameBut d s.heap g)
      _ ?_ ?_ _ _ ⟨s.heap, 0, rfl, rfl, Nat.zero_le _, by simpa [merged] using md, go, Heap.SameBut.refl _ _⟩
    · rintro x rest u s1 ⟨g, i, rfl, hr, hi, m1, o1, sb⟩
      have lt : i < eso.size := by
        rcases Nat.lt_or_ge i eso.size with q | q
        · exact q
        · rw [List.drop_eq_nil_of_le (by rw [List.length_range]; exact q)] at hr
          cases hr
      have hx : x = i ∧ rest = (List.range eso.size).drop (i + 1) := by
        rw [List.drop_eq_getElem_cons (by rw [List.length_range]; exact lt), List.getElem_range] at hr
        injection hr with q1 q2
        exact ⟨q1, q2⟩
      obtain ⟨rfl, hrest⟩ := hx
      refine wpAny_bind (wpAny_dictEntries o1 dao ?_)
      rw [Array.getElem?_eq_getElem lt]
      obtain ⟨⟨k, v⟩, hkv⟩ : ∃ kv, more[x]? = some kv := ⟨more[x]'(by rw [len]; exact lt), List.getElem?_eq_getElem _⟩
      obtain ⟨isk, isv⟩ := po.get? (e := eso[x]) (by simp [lt]) hkv
      obtain ⟨k2, isk2, hh⟩ := ko eso[x] (Array.getElem_mem lt)
      have ek : k2 = k := (L2.mixKind P w).inj _ _ _ isk2 isk
      subst ek
      dsimp only
      rw [hh, isv]
      have few : (merged kvs (more.take x)).length ≤ sizeLine := by
        have l1 := merged_length_le kvs (more.take x)
        have l2 : (more.take x).length ≤ more.length := by rw [List.length_take]; exact Nat.min_le_right _ _
        omega
      refine wpAny_bind (wpAny_holding (put_pair isk m1 (fun g2 m2 sb2 => ?_) few))
      have o2 : g2.get? o = some oo := (sb2.2 o fun z => ndo z.symm).trans o1
      refine wpAny_bind (wpAny_dictEpoch o2 dao ?_)
      rw [if_neg (by simp)]
      exact wpAny_pure ⟨g2, x + 1, rfl, hrest, lt, by rw [merged_take_succ kvs more x (k2, v) hkv]; exact m2, o2, sb.trans sb2⟩
    · rintro u s1 ⟨g, i, rfl, hr, hi, m1, o1, sb⟩
      have hin : eso.size ≤ i := by
        have l1 := congrArg List.length hr
        rw [List.length_drop, List.length_range] at l1
        simp at l1
        omega
      have e : i = eso.size := Nat.le_antisymm hi hin
      refine wpAny_pure (fin g ?_ ⟨oo, eso, epo, o1, co, dao, ko, po, no⟩ sb)
      rw [e, ← len, List.take_length] at m1
      exact m1
  split
  · refine wpAny_bind (wpAny_dictEntries go dao (wpAny_bind ?_))
    rw [← Array.forIn_toList]
    refine wpAny_forIn_list _ (fun rest _ s1 => s1 = s ∧ ∀ e ∈ rest, e ∈ eso.toList) _ ?_ ?_ _ _ ⟨rfl, fun _ h => h⟩
    · rintro x rest u s1 ⟨rfl, hm⟩
      have np := plain x (hm x (List.mem_cons_self ..))
      have nx : (s1 = s1 ∧ ∀ e ∈ rest, e ∈ eso.toList) := ⟨rfl, fun e he => hm e (List.mem_cons_of_mem _ he)⟩
      cases hk : x.key with
      | ref a => exact absurd hk (np a)
      | _ => exact wpAny_pure nx
    · rintro u s1 ⟨rfl, _⟩
      exact walk
  · exact walk
end
section
variable {P : Program} {w : World} {A : Around} {E : Value → Shared → Prop} {s : Shared}
theorem two_stars {ta tb : Sem Value} {Q : Value → Shared → Prop}
    (h : wpAny (model P w) A ta (fun m s1 => wpAny (model P w) A (mergeMapping s.heap.objs.size m false) (fun _ s2 => wpAny (model P w) A tb (fun m2 s3 => wpAny (model P w) A (mergeMapping s.heap.objs.size m2 false) (fun _ s4 => Q (.ref s.heap.objs.size) s4) (fun _ _ => False) s3) (fun _ _ => False) s2) (fun _ _ => False) s1) (fun _ _ => False)
      { s with heap := s.heap.push { cls := .type "dict", data := .dict #[] } }) : wpAny (model P w) A (dictDisplay [(none, ta), (none, tb)]) Q E s := by
  unfold dictDisplay
  dsimp only
  refine wpAny_bind (wpAny_forIn_list _ (fun rest b s1 => (rest = [(none, ta), (none, tb)] ∧ b = (none, []) ∧ s1 = s) ∨ (rest = [(none, tb)] ∧ b = (some s.heap.objs.size, []) ∧
    wpAny (model P w) A tb (fun m2 s3 => wpAny (model P w) A (mergeMapping s.heap.objs.size m2 false) (fun _ s4 => Q (.ref s.heap.objs.size) s4) (fun _ _ => False) s3) (fun _ _ => False) s1) ∨ (rest = [] ∧ b = (some s.heap.objs.size, []) ∧ Q (.ref s.heap.objs.size) s1))
    _ ?_ ?_ _ _ (.inl ⟨rfl, rfl, rfl⟩))
  · rintro x rest b s1 (⟨e1, rfl, rfl⟩ | ⟨e1, rfl, h2⟩ | ⟨e1, _⟩)
    · cases e1
      dsimp only
      refine wpAny_bind ?_
      rw [if_pos (show ([] : List (Sem Value × Sem Value)).isEmpty = true from rfl)]
      refine wpAny_pure ?_
      dsimp only
      refine wpAny_bind (wpAny_alloc (wpAny_bind (wpAny_holding (wpAny_mono h (fun m s2 hm => ?_) fun _ _ z => z.elim))))
      exact wpAny_bind (wpAny_onRaise (wpAny_tryCatch (wpAny_onRaise (wpAny_holding (wpAny_mono hm (fun _ s3 h3 => wpAny_pure (.inr (.inl ⟨rfl, rfl, h3⟩))) fun _ _ z => z.elim)))))
    · cases e1
      dsimp only
      refine wpAny_bind ?_
      rw [if_pos (show ([] : List (Sem Value × Sem Value)).isEmpty = true from rfl)]
      refine wpAny_pure ?_
      dsimp only
      refine wpAny_bind (wpAny_pure (wpAny_bind (wpAny_holding (wpAny_mono h2 (fun m s2 hm => ?_) fun _ _ z => z.elim))))
      exact wpAny_bind (wpAny_onRaise (wpAny_tryCatch (wpAny_onRaise (wpAny_holding (wpAny_mono hm (fun _ s3 h3 => wpAny_pure (.inr (.inr ⟨rfl, rfl, h3⟩))) fun _ _ z => z.elim)))))
    · cases e1
  · rintro b s1 (⟨e1, _⟩ | ⟨e1, _⟩ | ⟨_, rfl, q⟩)
    · cases e1
    · cases e1
    · dsimp only
      refine wpAny_bind ?_
      rw [if_pos (show ([] : List (Sem Value × Sem Value)).isEmpty = true from rfl)]
      refine wpAny_pure ?_
      exact wpAny_pure q
end
section
open L2
variable {T : List (Addr × Str)} {K : PySem.W.Frag} {ρ ρ' : List Addr} {H H' : Hp} {st : S} {p : Addr}
theorem ER.mv (m : Mv ρ H ρ' H') {es : Es} {σ : L2.St} (h : ER K ρ H es σ) : ER K ρ' H' es σ := ⟨h.1, fun i d hi => let ⟨v, h1, h2⟩ := h.2 i d hi; ⟨v, h1, DR.mv m d v h2⟩⟩
theorem Rel.off (R : Rel T K ρ H st) {u u' : HO} (h : H p = some u) (z : StO u) (nf : ∀ ob v, u ≠ .frz ob v) (hp : p ∉ ρ) : Rel T K ρ (upd H p u') st :=
  ⟨Tabs.put R.tab h z, R.len, R.nd, fun i a o hi ho => (R.obj i a o hi ho).mv (Mv.off (ρ := ρ) (u' := u') h z nf) (upd_ne fun y => hp (y ▸ List.mem_of_getElem? hi))⟩
def dicOfD : D → M (List (Key × D))
  | .ref n => dicAt n
  | _ => fail
theorem dicOfD_some {d : D} {s s' : S} {kvs : List (Key × D)} (h : dicOfD d s = some (kvs, s')) : ∃ n, d = .ref n ∧ kvsOf s[n]? = some kvs ∧ s' = s := by
  cases d with
  | ref n => exact ⟨n, rfl, dicAt_some h⟩
  | _ => cases h
def star2D (a b : Es → M D) : Es → M D := fun es => do
  let x ← a es
  let kx ← dicOfD x
  let y ← b es
  let ky ← dicOfD y
  guardM (decide (kx.length + ky.length ≤ sizeLine))
  new (.dic (merge (merge [] kx) ky))
theorem nodk {ws : List (Key × V)} (ob : Obj) (v : HO) : HO.dK ws ≠ .frz ob v := fun z => nomatch z
section
variable {X : Cx} {pos : Pos} {a b : Expr} {ma mb : Es → M D}
theorem mstar2 (hx : X.xe = fun _ _ => False) (ha : PE X a (eM T X.K ma)) (hb : PE X b (eM T X.K mb)) : PE X (.Dict [none, none] [a, b] pos) (eM T X.K (star2D ma mb)) := by
  refine ⟨fun pins s σ H Q I h => ?_⟩
  obtain ⟨ρ, st, es, d, st', R, Er, hm, k⟩ := h
  obtain ⟨x, s1, h1, hm1⟩ := bind_some hm
  obtain ⟨kx, s1', h2, hm2⟩ := bind_some hm1
  obtain ⟨n, rfl, hkx, rfl⟩ := dicOfD_some h2
  obtain ⟨y, s2, h3, hm3⟩ := bind_some hm2
  obtain ⟨ky, s2', h4, hm4⟩ := bind_some hm3
  obtain ⟨m, rfl, hky, rfl⟩ := dicOfD_some h4
  obtain ⟨hz, h5⟩ := guarded hm4
  cases h5
  have hz := of_decide_eq_true hz
  rw [arm_eval_Dict]
  refine wpAny_bind (wpAny_standAt ?_)
  show wpAny (model X.prog X.w) X.A (dictDisplay [(none, do let x ← eval a X.env; standAt pos; pure x), (none, do let x ← eval b X.env; standAt pos; pure x)]) _ _ _
  have ha' := fun pins s σ H Q I => ha.run pins s σ H Q I
  have hb' := fun pins s σ H Q I => hb.run pins s σ H Q I
  rw [hx] at ha' hb'
  have hp : H s.heap.objs.size = none := I.hok.fresh (Nat.le_refl _)
  have np : s.heap.objs.size ∉ ρ := fun z => by
    obtain ⟨u, e, _⟩ := R.at z
    rw [hp] at e; cases e
  have I1 := I.laid (a := s.heap.objs.size) (o := .dK []) (h' := s.heap.push { cls := .type "dict", data := .dict #[] }) (t' := s.toks) (fun _ _ q => Heap.get?_push_of_some _ q) (Nat.le_refl _) (dk_empty s.heap I.big)
  have E1 : Ext ρ H ρ (upd H s.heap.objs.size (.dK [])) := Ext.fresh hp
  refine two_stars (wpAny_bind (wpAny_mono (ha' pins _ σ _ (fun v H1 => ∃ ρ1, Ext ρ (upd H s.heap.objs.size (.dK [])) ρ1 H1 ∧ Rel T X.K ρ1 H1 s1' ∧ DR X.K ρ1 H1 (.ref n) v) I1
    ⟨ρ, st, es, _, s1', R.any hp, Er.ext R E1, h1, fun ρ1 v1 H1 e1 R1 d1 => ⟨ρ1, e1, R1, d1⟩⟩) (fun u s3 ⟨v, H1, I2, rv, ρ1, e1, R1, d1⟩ => wpAny_bind (wpAny_standAt (wpAny_pure ?_))) fun _ _ z => z))
  generalize hP : s.heap.objs.size = p at *
  have p1 : H1 p = some (.dK []) := e1.keep p _ upd_same np fun _ z => nomatch z
  have np1 : p ∉ ρ1 := fun z => by
    rcases e1.new p z with z | z
    · exact np z
    · rw [upd_same] at z; cases z
  obtain ⟨o1, ws, rfl, ho1, r1, k1⟩ := R1.rdk d1 hkx
  cases rv
  have n1 : p ≠ o1 := fun z => np1 (z ▸ List.mem_of_getElem? ho1)
  obtain ⟨z1, sm1, vs1, rel1, dd1⟩ := dk_rd I2.hok r1
  obtain ⟨_, smp, vs0, rel0, dd0⟩ := dk_of I2.hok p1
  cases rel0
  have l1 : ws.length = vs1.length := Paired.length rel1
  have l1' : ws.length = kx.length := k1.length
  refine merge_plain n1 sm1 dd0 dd1 (by rw [List.length_nil, ← l1]; omega) fun g dp do_ sb => ?_
  have lm1 : (mergeK [] ws).length ≤ ws.length := by
    have q := length_mergeK ws []
    rw [List.length_nil] at q
    omega
  have he : ∃ q, g.get? p = some q := let ⟨q, _, _, hq, _⟩ := dp; ⟨q, hq⟩
  have I3 : L2.Inv X pins σ (upd H1 p (.dK (mergeK [] ws))) { s3 with heap := g } := d_write (t' := s3.toks) I2 (by rw [p1]; exact True.intro) sb he (dk_new (by omega) smp (rel1.merge .nil) dp)
  have R3 : Rel T X.K ρ1 (upd H1 p (.dK (mergeK [] ws))) s1' := R1.off p1 StO.dk nodk np1
  have M3 : Mv ρ1 H1 ρ1 (upd H1 p (.dK (mergeK [] ws))) := Mv.off p1 StO.dk nodk
  have Er3 : ER X.K ρ1 (upd H1 p (.dK (mergeK [] ws))) es σ := ((Er.ext R E1).ext (R.any hp) e1).mv M3
  refine wpAny_bind (wpAny_mono (hb' pins _ σ _ (fun v H2 => ∃ ρ2, Ext ρ1 (upd H1 p (.dK (mergeK [] ws))) ρ2 H2 ∧ Rel T X.K ρ2 H2 s2' ∧ DR X.K ρ2 H2 (.ref m) v) I3
    ⟨ρ1, s1', es, _, s2', R3, Er3, h3, fun ρ2 v2 H2 e2 R2 d2 => ⟨ρ2, e2, R2, d2⟩⟩) (fun u2 s4 ⟨v2, H2, I4, rv2, ρ2, e2, R2, d2⟩ => wpAny_bind (wpAny_standAt (wpAny_pure ?_))) fun _ _ z => z)
  have p2 : H2 p = some (.dK (mergeK [] ws)) := e2.keep p _ upd_same np1 fun _ z => nomatch z
  have np2 : p ∉ ρ2 := fun z => by
    rcases e2.new p z with z | z
    · exact np1 z
    · rw [upd_same] at z; cases z
  obtain ⟨o2, ws2, rfl, ho2, r2, k2⟩ := R2.rdk d2 hky
  cases rv2
  have n2 : p ≠ o2 := fun z => np2 (z ▸ List.mem_of_getElem? ho2)
  obtain ⟨z2, sm2, vs2, rel2, dd2⟩ := dk_rd I4.hok r2
  obtain ⟨_, smp2, vsp, relp, ddp⟩ := dk_of I4.hok p2
  have l2 : ws2.length = vs2.length := Paired.length rel2
  have l2' : ws2.length = ky.length := k2.length
  have lp : (mergeK [] ws).length = vsp.length := Paired.length relp
  refine merge_plain n2 sm2 ddp dd2 (by rw [← lp, ← l2]; omega) fun g2 dp2 do2 sb2 => ?_
  have lm2 : (mergeK (mergeK [] ws) ws2).length ≤ (mergeK [] ws).length + ws2.length := length_mergeK ws2 _
  have he2 : ∃ q, g2.get? p = some q := let ⟨q, _, _, hq, _⟩ := dp2; ⟨q, hq⟩
  have I5 : L2.Inv X pins σ (upd H2 p (.dK (mergeK (mergeK [] ws) ws2))) { s4 with heap := g2 } := d_write (t' := s4.toks) I4 (by rw [p2]; exact True.intro) sb2 he2 (dk_new (by omega) smp2 (rel2.merge relp) dp2)
  have k1' : KR X.K ρ2 H2 kx ws := KR.ext R3 e2 _ _ (KR.mv M3 _ _ k1)
  have M5 : Mv ρ2 H2 ρ2 (upd H2 p (.dK (mergeK (mergeK [] ws) ws2))) := Mv.off p2 StO.dk nodk
  refine ⟨.ref p, _, I5, rfl, k (ρ2 ++ [p]) _ _ ⟨(e1.pre.trans e2.pre).trans (List.prefix_append _ _), fun c hc => ?_, fun c o q hn ht => ?_, fun c ps q => ?_⟩ (R2.close p2 StO.dk nodk np2 ⟨_, upd_same, ?_⟩) (ref_new R2)⟩
  · rcases List.mem_append.mp hc with z | z
    · by_cases hr : c ∈ ρ
      · exact .inl hr
      · right
        by_cases hcp : c = p
        · rw [hcp]; exact hp
        · cases q : H c with
          | none => rfl
          | some o =>
            have q1 : upd H p (.dK []) c = some o := by rw [upd_ne hcp]; exact q
            obtain ⟨o', q2⟩ := e1.there q1 hr
            rcases e2.new c z with z | z
            · rcases e1.new c z with z | z
              · exact absurd z hr
              · rw [q1] at z; cases z
            · rw [upd_ne hcp, q2] at z; cases z
    · have : c = p := by simpa using z
      subst this; exact .inr hp
  · have hcp : c ≠ p := ne_of_none q hp
    have q1 := e1.keep c o (by rw [upd_ne hcp]; exact q) hn ht
    have nc1 : c ∉ ρ1 := fun z => by
      rcases e1.new c z with z | z
      · exact hn z
      · rw [upd_ne hcp, q] at z; cases z
    rw [upd_ne hcp]
    exact e2.keep c o (by rw [upd_ne hcp]; exact q1) nc1 ht
  · have hcp : c ≠ p := ne_of_none q hp
    obtain ⟨m1, q1⟩ := e1.tbl c ps (by rw [upd_ne hcp]; exact q)
    obtain ⟨m2, q2⟩ := e2.tbl c (ps ++ m1) (by rw [upd_ne hcp]; exact q1)
    exact ⟨m1 ++ m2, by rw [upd_ne hcp, q2, Array.append_assoc]⟩
  · have hk : KR X.K (ρ2 ++ [p]) (upd H2 p (.dK (mergeK (mergeK [] ws) ws2))) kx ws := KR.mv Mv.more _ _ (KR.mv M5 _ _ k1')
    have hk2 : KR X.K (ρ2 ++ [p]) (upd H2 p (.dK (mergeK (mergeK [] ws) ws2))) ky ws2 := KR.mv Mv.more _ _ (KR.mv M5 _ _ k2)
    exact KR.merge hk2 (KR.merge hk rfl)
end
end
end Mx


/-! Mx14: sorted(e, key=lambda x: repr(x)). -/
namespace Mx
open PySem PySem.Spec L2
variable {T : List (Addr × Str)}

/-- tables may grow, all else stays -/
def Grow (H H' : Hp) : Prop := ∀ b o, H b = some o → (∃ ps more, o = .tbl ps ∧ H' b = some (.tbl (ps ++ more))) ∨ H' b = some o
theorem Grow.refl (H : Hp) : Grow H H := fun _ _ h => .inr h
theorem Grow.ext {ρ : List Addr} {H H' : Hp} (g : Grow H H') : Ext ρ H ρ H' := by
  refine ⟨List.prefix_refl _, fun _ h => .inl h, fun a o q _ ht => ?_, fun a ps q => ?_⟩
  · rcases g a o q with ⟨ps, _, e, _⟩ | e
    · exact absurd e (ht ps)
    · exact e
  · rcases g a _ q with ⟨qs, more, e, z⟩ | e
    · cases e; exact ⟨more, z⟩
    · exact tbl_same e
theorem Grow.rel {K : PySem.W.Frag} {ρ : List Addr} {H H' : Hp} {st : S} (g : Grow H H') (R : Rel T K ρ H st) (t : LamX.Tabs T H') : Rel T K ρ H' st :=
  ⟨t, R.len, R.nd, fun i a o hi ho => by
    have q := R.obj i a o hi ho
    obtain ⟨u, hu, z⟩ := q.some
    refine q.ext R g.ext ?_
    rcases g a u hu with ⟨ps, _, e, _⟩ | e
    · exact absurd e (z.notTbl ps)
    · rw [e, hu]⟩
section
variable {X : Cx} {pins : List (Addr × Obj)} {σ : L2.St} {H : Hp} {s : Shared}
/-- the making of a lambda: what it changes, told in full -/
theorem lam_new {c P : Addr} {params : Arguments} {body : Expr} {scope : Scope} {pos : Pos} {E : Value → Shared → Prop} {Q : Value → Shared → Prop} (I : L2.Inv X pins σ H s) (TB : LamX.TabB X.base X.mg c P) (hcode : X.env.code = .ref c)
    (mem : (P, X.env.qual ++ "<lambda>") ∈ T) (one : ∀ p ∈ T, p.1 = P → p.2 = X.env.qual ++ "<lambda>") (tabs : LamX.Tabs T H) (nodef : defaultsOf params X.env = ([], [])) (nofree : ∀ y ∈ scope.names, y.2 ≠ .free)
    (h : ∀ (f c' : Addr) (pm ctv : Value) (H1 : Hp) (s1 : Shared), L2.Inv X pins σ H1 s1 → Grow H H1 → LamX.Tabs T H1 →
      s1.heap.get? f = some (PySem.W.kla_obj "<lambda>" (X.env.qual ++ "<lambda>") params body scope (cloFrom X.env.cells scope.names []) pm c' ctv) → H1 c' = some (LamX.CodeO c' (X.env.qual ++ "<lambda>")) → Q (.ref f) s1) :
    wpAny (model X.prog X.w) X.A (eval (.Lambda params body scope pos) X.env) Q E s := by
  obtain ⟨ps, atP, triple, among⟩ := tabs _ mem
  have nf : ∀ y ∈ scope.names, y.2 = .free → ∃ c, X.env.cells.lookup y.1 = some c := fun y hy e => absurd e (nofree y hy)
  have bP := TB.bm.keeps I.bk
  have oP : s.heap.get? P = some { cls := .none, data := .fields ps } := I.hok P _ atP
  refine PySem.W.kla_eval nodef ?_
  cases look : codeAmong pos ps.toList with
  | some cv =>
    obtain ⟨c', e, isc⟩ := among pos cv look
    subst e
    refine PySem.W.kla_makeFunctionHit (mg := X.mg) (c := c) (P := P) (ps := ps) (closure_ok nf) I.ok.glob (I.mod.glob.keeps I.bk) hcode (TB.code.keeps I.bk) oP triple look bP fun ctv g tk old _ => ?_
    exact h g.objs.size c' _ ctv H _ (I.kept fun b o e => Heap.get?_push_of_some _ (old b o e)) (Grow.refl H) tabs (Heap.get?_push_size _ rfl) isc
  | none =>
    refine PySem.W.kla_makeFunction (mg := X.mg) (c := c) (P := P) (ps := ps) (closure_ok nf) I.ok.glob (I.mod.glob.keeps I.bk) hcode (TB.code.keeps I.bk) oP triple look TB.gP bP fun c' ctv g tk old ge lt rec tab => ?_
    obtain ⟨c2, oc, vs, t, e2, isoc, dat, nm⟩ := rec
    cases e2
    have fresh : H c' = none := I.hok.fresh ge
    have J := LamX.inv_table (t' := tk) (more := #[rawInt pos.line, rawInt pos.col, .ref c']) (h' := g.push (PySem.W.kla_obj "<lambda>" (X.env.qual ++ "<lambda>") params body scope (cloFrom X.env.cells scope.names []) ((X.mg "__name__").getD .none) c' ctv)) I atP
      (fun b o nb e => Heap.get?_push_of_some _ (old b o nb e)) (Heap.get?_push_of_some _ tab) ge ⟨oc, vs, t, Heap.get?_push_of_some _ isoc, dat, nm⟩
    have gr : Grow H (upd (upd H P (.tbl (ps ++ #[rawInt pos.line, rawInt pos.col, .ref c']))) c' (LamX.CodeO c' (X.env.qual ++ "<lambda>"))) := fun b o e => by
      have nb : b ≠ c' := ne_of_none e fresh
      by_cases z : b = P
      · subst z
        rw [atP] at e
        cases e
        exact .inl ⟨ps, _, rfl, by rw [upd_ne nb, upd_same]⟩
      · exact .inr (by rw [upd_ne nb, upd_ne z]; exact e)
    have codeKeep : ∀ c0 q, H c0 = some (LamX.CodeO c0 q) → upd (upd H P (.tbl (ps ++ #[rawInt pos.line, rawInt pos.col, .ref c']))) c' (LamX.CodeO c' (X.env.qual ++ "<lambda>")) c0 = some (LamX.CodeO c0 q) := fun c0 q e => by
      rcases gr c0 _ e with ⟨qs, _, z, _⟩ | z
      · exact absurd z (LamX.codeO_ne qs)
      · exact z
    refine h g.objs.size c' _ ctv _ _ J gr (fun p hp => ?_) (Heap.get?_push_size _ rfl) upd_same
    obtain ⟨qs, a1, a2, a3⟩ := tabs p hp
    by_cases z : p.1 = P
    · have eq := one p hp z
      rw [z] at a1 ⊢
      rw [atP] at a1
      cases a1
      rw [eq]
      have el : (ps ++ #[rawInt pos.line, rawInt pos.col, .ref c']).toList = ps.toList ++ [rawInt pos.line, rawInt pos.col, .ref c'] := by simp
      refine ⟨_, by rw [upd_ne (ne_of_none atP fresh), upd_same], by rw [el]; exact PySem.TriplesOk_snoc _ _ _ _ triple, fun p' cv hcv => ?_⟩
      rw [el] at hcv
      rcases LamX.among_app _ triple hcv with y | y
      · obtain ⟨c0, q1, q2⟩ := among p' cv y
        exact ⟨c0, q1, codeKeep _ _ q2⟩
      · exact ⟨c', y, upd_same⟩
    · refine ⟨qs, by rw [upd_ne (ne_of_none a1 fresh), upd_ne z]; exact a1, a2, fun p' cv hcv => ?_⟩
      obtain ⟨c0, q1, q2⟩ := a3 p' cv hcv
      exact ⟨c0, q1, codeKeep _ _ q2⟩
/-- a name that stands in a slot: the state stays -/
theorem var_raw {E : Value → Shared → Prop} {i : Nat} {x : Str} {pos : Pos} {v : V} {Q : Value → Shared → Prop} (I : L2.Inv X pins σ H s) (hN : X.N[i]? = some x) (hv : Vis X.env.scope x) (e : σ[i]? = some (some v)) (h : ∀ u, RelV v u → Q u s)
    (hd : (x == ("__debug__" : Str)) = false := by decide) (hcd : (x == ("__classdict__" : Str)) = false := by decide) : wpAny (model X.prog X.w) X.A (eval (.Name x pos) X.env) Q E s := by
  obtain ⟨m, ns, look⟩ := I.loc
  obtain ⟨u, r, l⟩ := look i x v hN e hv
  rcases l with ⟨k, z⟩ | ⟨k | k, c, z, y⟩
  · exact wpAny_Name (wpAny_loadName_local I.ok.kind k ns z (h u r)) hd
  · exact wpAny_Name (wpAny_loadName_cell I.ok.kind k z y (h u r)) hd
  · exact wpAny_Name (wpAny_loadName_free I.ok.kind k z y (h u r) hcd) hd
end
theorem clo_none (cells : List (Str × Addr)) : ∀ (names : List (Str × NameKind)) (acc : List (Str × Addr)), (∀ y ∈ names, y.2 ≠ .free) → cloFrom cells names acc = acc
  | [], _, _ => rfl
  | (n, k) :: r, acc, h => by
    unfold cloFrom
    have hk : (k == NameKind.free) = false := by
      cases e : k == NameKind.free with
      | false => rfl
      | true => exact absurd (by simpa using e) (h (n, k) (List.mem_cons_self ..))
    rw [if_neg (by rw [hk]; exact Bool.false_ne_true)]
    exact clo_none cells r acc fun y hy => h y (List.mem_cons_of_mem _ hy)
/-- what repr gives, if it may be asked -/
def shownD (st : S) (d : D) : Option Str := match toPy st 64 d with
  | some p => if p.showable && decide (p.shown.length ≤ sizeLine) then some p.shown else none
  | none => none
section
variable {X : Cx} {pins : List (Addr × Obj)} {σ : L2.St} {H : Hp} {s : Shared}
theorem repr_raw {E : Value → Shared → Prop} {ρ : List Addr} {st : S} {d : D} {v : V} {u : Value} {z : Str} {Q : Value → Shared → Prop} (I : L2.Inv X pins σ H s) (R : Rel T X.K ρ H st) (hd : DR X.K ρ H d v) (ru : RelV v u) (hg : X.A.guards = some []) (hu : X.A.units + 70 < cLine)
    (hz : shownD st d = some z) (h : ∀ (g : Heap) (t : Tok) (tk : Nat), (∀ b o, s.heap.get? b = some o → g.get? b = some o) → Q (.str z t) { s with heap := g, toks := tk }) :
    wpAny (model X.prog X.w) X.A (call (.builtin "repr") [u]) Q E s := by
  unfold shownD at hz
  split at hz
  · rename_i p hp
    split at hz
    · rename_i hs
      cases hz
      rw [Bool.and_eq_true, decide_eq_true_eq] at hs
      have P := toPy_ok R 64 d v p hd hp
      obtain ⟨rd, hrd⟩ := P.dp.reads I p v u ru
      have deep := P.deep
      cases u with
      | ref a => exact repr_of_reads' hrd hs.1 (PyData.noDict_hsm (PyData.hasDict_of_canLay p P.lay)) hg (by omega) (fun _ _ q => q) (fun g t tk hk => h g t tk hk) hs.2
      | none => cases hrd; exact PySem.P.repr_of_none (h _ _ _ fun _ _ q => q)
      | bool b => cases hrd; exact PySem.P.repr_of_bool (h _ _ _ fun _ _ q => q)
      | int i t => cases hrd; exact PySem.P.repr_of_int (of_decide_eq_true hs.1) (h _ _ _ fun _ _ q => q)
      | str x t => cases hrd; exact PySem.P.repr_of_str (h _ _ _ fun _ _ q => q) hs.2
      | _ => cases hrd
    · cases hz
  · cases hz
/-- the lambda's turn at an item -/
theorem turn_repr {ρ : List Addr} {st : S} {d : D} {v : V} {u : Value} {z : Str} {f c' : Addr} {pm ctv : Value} {params : Arguments} {scope : Scope} {x : Str} {p1 p2 p3 : Pos} {g : Heap} {tk : Nat}
    (I : L2.Inv X pins σ H s) (R : Rel T X.K ρ H st) (hd : DR X.K ρ H d v) (ru : RelV v u) (rm : Rm 2 X.A) (hz : shownD st d = some z)
    (isf : s.heap.get? f = some (PySem.W.kla_obj "<lambda>" (X.env.qual ++ "<lambda>") params (.Call (.Name "repr" p1) [.Name x p2] [] p3) scope (cloFrom X.env.cells scope.names []) pm c' ctv)) (isc : H c' = some (LamX.CodeO c' (X.env.qual ++ "<lambda>")))
    (S0 : FnScope [x] [x] scope) (nofree : ∀ y ∈ scope.names, y.2 ≠ .free) (nm : X.mg "repr" = none) (gl : scope.names.lookup ("repr" : Str) = some .globalImplicit) (vis : Vis scope x) (n1 : (x == ("__debug__" : Str)) = false) (n2 : (x == ("__classdict__" : Str)) = false)
    (bind : ∀ (cl : List (Str × Addr)) (pm cdv ctv a : Value), bindArgs (PySem.W.kla_fn "<lambda>" (X.env.qual ++ "<lambda>") params (.Call (.Name "repr" p1) [.Name x p2] [] p3) scope cl pm cdv ctv) ⟨[a], []⟩ = pure [(x, a)])
    (old : ∀ b o, s.heap.get? b = some o → g.get? b = some o) :
    wpAny (model X.prog X.w) X.A.in1.in1 (call (.ref f) [u]) (PySem.W.KeyPure (.str z) { s with heap := g, toks := tk }) (fun _ _ => False) { s with heap := g, toks := tk } := by
  have J : L2.Inv X pins σ H { s with heap := g, toks := tk } := I.kept old
  have e0 : Env0 X.prog X.w X.K X.mg X.base X.A.in1.in1 X.stack { s with heap := g, toks := tk } H := J.env0.in1.in1
  obtain ⟨⟨oc, vs, t, hoc, hdc, hvc⟩, _, _⟩ := J.hok c' _ isc
  have nocl : cloFrom X.env.cells scope.names [] = [] := clo_none _ _ _ nofree
  rw [nocl] at isf
  have hkind : ∀ y ∈ [(x, u)], scope.names.lookup y.1 = some .local ∨ (scope.names.lookup y.1 = some .cell ∧ ((cellsFrom (g.objs.size + 1) scope.names []).lookup y.1).isSome = true) := fun y hy => by
    have ey : y = (x, u) := by simpa using hy
    subst ey
    rcases S0.par x (List.mem_cons_self ..) with q | q
    · exact .inl q
    · exact .inr ⟨q, PySem.W.cellsFrom_some _ _ _ (.inl q)⟩
  refine wpAny_call (PySem.W.kla_callFunE (by have := rm.r.dp; show X.A.depth < recursionLimit; omega) (old _ _ isf) rfl S0.co S0.gen rfl ⟨c', oc, vs, t, rfl, hoc, hdc, hvc⟩ ?_)
  rw [bind]
  refine wpAny_pure (wpAny_newFunctionEnv_cells S0.kind hkind fun env he s1 y => ?_)
  subst he
  have r2 : Vals [v] [u] := .cons ru .nil
  refine ⟨J.nolimit.keeps y.toInCall.keep, PySem.W.kla_codeExpr ?_⟩
  have K0 : L2.Inv (cxOf CX0 X.prog X.w X.K X.mg X.base [x] (X.env.qual ++ "<lambda>") scope f (.ref c') X.A.in1.in1 X.stack { s with heap := g, toks := tk } H E0) [] (start [x] [v]) H s1 := inv_start S0 rm.r.hd e0 rfl r2 y
  obtain ⟨g1, tk1, rfl, old1⟩ := y.done
  have gu : (X.A.in1.in1.deeper (PyProof.Rows.envOfC (X.env.qual ++ "<lambda>") scope g.objs.size f (.ref c'))).units + 70 < cLine := by
    have := rm.r.un
    show X.A.units + 1 + 1 + 3 + 70 < cLine
    omega
  refine wpAny_Call_Name_kw (ld_blt (X := cxOf CX0 X.prog X.w X.K X.mg X.base [x] (X.env.qual ++ "<lambda>") scope f (.ref c') X.A.in1.in1 X.stack { s with heap := g, toks := tk } H E0) K0 gl nm PyProof.Rows.boot_repr ?_)
  refine PyProof.Rows.callWith_builtin1 (Calls.spliced_cons (var_raw (v := v) (i := 0) K0 rfl vis rfl (fun u2 r3 => Calls.spliced_nil ?_) n1 n2)) rfl rfl
  refine repr_raw (X := cxOf CX0 X.prog X.w X.K X.mg X.base [x] (X.env.qual ++ "<lambda>") scope f (.ref c') X.A.in1.in1 X.stack { s with heap := g, toks := tk } H E0) K0 R hd r3 rm.g gu hz fun g2 t2 tk2 old2 => ?_
  exact ⟨g2, tk2, rfl, fun b o e => old2 b o (old1 b o e), Reads.str _ _⟩
end
/-! ### the rule -/
def keyOf (st : S) (d : D) : PyData := .str ((shownD st d).getD "")
def allShown (st : S) (ds : List D) : Bool := ds.all fun d => (shownD st d).isSome
def sortRef (n : Nat) : M D := fun st => match st[n]? with
  | some (.lst ds) => if allShown st ds then some (.ref st.length, st ++ [.lst (ds.mergeSort (PySem.W.dataLe false (keyOf st)))]) else none
  | _ => none
def sortR (me : Es → M D) : Es → M D := fun es => do
  let x ← me es
  match x with
    | .ref n => sortRef n
    | _ => fail
section
variable {K : PySem.W.Frag} {ρ : List Addr} {H : Hp}
theorem each_of : ∀ {ds : List D} {vs : List V} {us : List Value}, DRs K ρ H ds vs → Vals vs us → PySem.W.EachIs (fun u d => ∃ x, RelV x u ∧ DR K ρ H d x) us ds
  | [], _, us, h, r => by
    rw [DRs] at h
    subst h
    cases r
    exact .nil
  | d :: ds, _, us, h, r => by
    rw [DRs] at h
    obtain ⟨v, w, e, h1, h2⟩ := h
    subst e
    cases r with
    | cons r1 r2 => exact .cons ⟨v, r1, h1⟩ (each_of h2 r2)
theorem of_each : ∀ {ds : List D} {us : List Value}, PySem.W.EachIs (fun u d => ∃ x, RelV x u ∧ DR K ρ H d x) us ds → ∃ vs, Vals vs us ∧ DRs K ρ H ds vs
  | [], _, h => by
    cases h
    exact ⟨[], .nil, DRs.nil⟩
  | d :: ds, _, h => by
    cases h with
    | cons a r =>
      obtain ⟨x, h1, h2⟩ := a
      obtain ⟨vs, h3, h4⟩ := of_each r
      exact ⟨x :: vs, .cons h1 h3, DRs.cons h2 h4⟩
end
section
variable {X : Cx}
theorem msortR {a : Expr} {me : Es → M D} {p pos kpos lpos p1 p2 p3 : Pos} {params : Arguments} {scope : Scope} {x : Str} {c P : Addr} (rm : Rm 2 X.A) (ha : PE X a (eM T X.K me)) (hg : Gl X "sorted") (hm : X.mg "sorted" = none) (TB : LamX.TabB X.base X.mg c P) (hcode : X.env.code = .ref c)
    (mem : (P, X.env.qual ++ "<lambda>") ∈ T) (one : ∀ p ∈ T, p.1 = P → p.2 = X.env.qual ++ "<lambda>") (nm : X.mg "repr" = none)
    (bind : ∀ (cl : List (Str × Addr)) (pm cdv ctv a : Value), bindArgs (PySem.W.kla_fn "<lambda>" (X.env.qual ++ "<lambda>") params (.Call (.Name "repr" p1) [.Name x p2] [] p3) scope cl pm cdv ctv) ⟨[a], []⟩ = pure [(x, a)])
    (S0 : FnScope [x] [x] scope) (gl : scope.names.lookup ("repr" : Str) = some .globalImplicit) (vis : Vis scope x) (nodef : defaultsOf params X.env = ([], [])) (nofree : ∀ y ∈ scope.names, y.2 ≠ .free) (n1 : (x == ("__debug__" : Str)) = false) (n2 : (x == ("__classdict__" : Str)) = false)
    (he : backTo pos (starEach [a] X.env) = (false, eval a X.env) :: backTo pos (starEach [] X.env) := by rfl) (hpl : (backTo pos (starEach [a] X.env)).any (·.1) = false := by rfl) :
    PE X (.Call (.Name "sorted" p) [a] [⟨some "key", .Lambda params (.Call (.Name "repr" p1) [.Name x p2] [] p3) scope lpos, kpos⟩] pos) (eM T X.K (sortR me)) := by
  refine ⟨fun pins s σ H Q I h => wpAny_Call_Name_kw (ld_blt I hg hm PyProof.Rows.boot_sorted ?_)⟩
  obtain ⟨ρ, st, es, d, st', R, Er, hrun, k⟩ := h
  obtain ⟨y, st1, h1, h2⟩ := bind_some hrun
  cases y with
  | ref n =>
    have h3 : sortRef n st1 = some (d, st') := h2
    unfold sortRef at h3
    split at h3
    · rename_i ds hn
      split at h3
      · rename_i hall
        cases h3
        refine PyProof.Rows.callWith_kw ?_ he hpl rfl rfl
        rw [he]
        refine Calls.spliced_cons (thn (ha.run pins s σ H (fun v H1 => ∃ ρ1, Ext ρ H ρ1 H1 ∧ Rel T X.K ρ1 H1 st1 ∧ DR X.K ρ1 H1 (.ref n) v) I ⟨ρ, st, es, _, st1, R, Er, h1, fun ρ1 v1 H1 e1 R1 d1 => ⟨ρ1, e1, R1, d1⟩⟩) fun u s1 ⟨v, H1, I1, r1, ρ1, e1, R1, d1⟩ => Calls.spliced_nil ?_)
        show wpAny _ _ (evalAll ((do let v ← eval (.Lambda params (.Call (.Name "repr" p1) [.Name x p2] [] p3) scope lpos) X.env; standAt pos; pure v) :: [])) _ _ s1
        refine wpAny_evalAll_cons (wpAny_bind (lam_new I1 TB hcode mem one R1.tab nodef nofree fun f c' pm ctv H2 s2 I2 gr tabs isf isc => wpAny_bind (wpAny_standAt (wpAny_pure (wpAny_evalAll_nil ?_)))))
        have R2 := gr.rel R1 tabs
        have d2 := DR.ext R1 (gr.ext (ρ := ρ1)) _ _ d1
        obtain ⟨l, vs, rfl, _, q1, q2⟩ := R2.lst d2 hn
        cases r1
        obtain ⟨its, rv, pl, hz⟩ := I2.list (SqL.of q1)
        have hlen : its.length = ds.length := by rw [← rv.length, q2.length]
        show wpAny _ _ (call (.builtin "sorted") [.ref l] [("key", .ref f)]) _ _ s2
        refine PySem.W.sorted_key_data (b := false) (R := fun u d => ∃ x, RelV x u ∧ DR X.K ρ1 H2 d x) (keyOf st1) pl.isList (each_of q2 rv) (PySem.W.AllAlike.of fun _ _ => by simp [PySem.W.alike, keyOf]) (.inr fun z hz2 => ?_) (by rw [← q2.length]; exact hz) (fun b _ => ?_)
          (PyProof.Rows.ksk_s1 _ _) (fun _ => PyProof.Rows.ksk_l1 _ _) (fun _ => PyProof.Rows.ksk_t1 _ _) (fun u b hb hin g tk old => ?_) fun out cc g tk old fresh isl hl e2 => ?_
        · obtain ⟨b, _, rfl⟩ := List.mem_map.mp hz2
          exact ⟨fun e => (by cases e), fun xs e => (by cases e)⟩
        · have := rm.r.un
          show X.A.units + 2 + 0 < cLine
          omega
        · obtain ⟨xv, hx1, hx2⟩ := hb
          have hsome : (shownD st1 b).isSome = true := List.all_eq_true.mp hall b hin
          obtain ⟨z, hz2⟩ := Option.isSome_iff_exists.mp hsome
          have ek : keyOf st1 b = .str z := by unfold keyOf; rw [hz2]; rfl
          rw [ek]
          exact turn_repr I2 R2 hx2 hx1 rm hz2 isf isc S0 nofree nm gl vis n1 n2 bind old
        · obtain ⟨ws, v1, v2⟩ := of_each e2
          have hws : ws.length ≤ sizeLine := by rw [v1.length, hl, ← q2.length]; exact hz
          refine ⟨.ref (s2.heap.objs.size + 1), _, I2.laid (a := s2.heap.objs.size + 1) (o := .lst ws) (t' := tk) old (Nat.le_succ _) ⟨hws, out, cc, v1, isl⟩, rfl, ?_⟩
          exact Post.lst R2 (fun ρ3 v3 H3 e3 R3 d3 => k ρ3 v3 H3 ((e1.trans gr.ext).trans e3) R3 d3) v2 _ (I2.hok.fresh (Nat.le_succ _))
      · cases h3
    · cases h3
  | _ => cases h2
end
end Mx


/-! Mx15: short words for printed proofs. -/
namespace Mx
open PySem PySem.Spec L2
variable {T : List (Addr × Str)}

theorem dr_bl {K : PySem.W.Frag} {ρ : List Addr} {H : Hp} {b : Bool} : DR K ρ H (.bl b) (.bl b) := by rw [DR]
/-! ### operators by name -/
def eqO (a b : D) : M D := blM (eqD a b)
def neO (a b : D) : M D := blM (notM (eqD a b))
def ltO (a b : D) : M D := blM (ltD a b)
def gtO (a b : D) : M D := blM (ltD b a)
def leO (a b : D) : M D := blM (leD a b)
def geO (a b : D) : M D := blM (leD b a)
def isO (a b : D) : M D := blM (isD a b)
def isnO (a b : D) : M D := blM (notM (isD a b))
def inO (a b : D) : M D := blM (do
  let q ← inD a b
  pure (id q))
def ninO (a b : D) : M D := blM (do
  let q ← inD a b
  pure (not q))
section
variable {X : Cx}
theorem o_eq (h : X.A.units + 64 < cLine) : OpR X (compareOp .Eq) (r2M T X.K eqO) := op_eqM h
theorem o_ne (h : X.A.units + 64 < cLine) : OpR X (compareOp .NotEq) (r2M T X.K neO) := op_neM h
theorem o_lt : OpR X (compareOp .Lt) (r2M T X.K ltO) := op_ltM
theorem o_gt : OpR X (compareOp .Gt) (r2M T X.K gtO) := op_gtM
theorem o_le : OpR X (compareOp .LtE) (r2M T X.K leO) := op_leM
theorem o_ge : OpR X (compareOp .GtE) (r2M T X.K geO) := op_geM
theorem o_is : OpR X (compareOp .Is) (r2M T X.K isO) := op_isM
theorem o_isn : OpR X (compareOp .IsNot) (r2M T X.K isnO) := op_isnotM
theorem o_in (h : X.A.units + 65 < cLine) : OpR X (compareOp .In) (r2M T X.K inO) := op_inM h
theorem o_nin (h : X.A.units + 65 < cLine) : OpR X (compareOp .NotIn) (r2M T X.K ninO) := op_notInM h
theorem mtchain {a b c : Expr} {ma mb mc : Es → M D} {pos : Pos} {op op' : CmpOp} {g g' : D → D → M D} (ho : OpR X (compareOp op) (r2M T X.K g)) (ho' : OpR X (compareOp op') (r2M T X.K g')) (ha : PE X a (eM T X.K ma)) (hb : PE X b (eM T X.K mb)) (hc : PE X c (eM T X.K mc))
    (hm : lastMarks [op, op'] [b, c] = false := by with_unfolding_all rfl) (he : ∀ whole, isTrue (.Compare a [op, op'] [b, c] pos) X.env whole = (do let v ← whole; standAt (Expr.pos (.Compare a [op, op'] [b, c] pos)); holding [v] (truthy v)) := by intro _; rfl) :
    PT X (.Compare a [op, op'] [b, c] pos) (tM T X.K (tstD (chD g g' ma mb mc))) := mtst (mchain ho ho' ha hb hc hm) he
/-- an int of the module -/
theorem mgi {x : Str} {i : Int} {pos : Pos} (hg : Gl X x) (h : ∃ t, X.mg x = some (.int i t)) (hdb : (x == ("__debug__" : Str)) = false := by decide) : PE X (.Name x pos) (eM T X.K (cD (.int i))) :=
  let ⟨_, e⟩ := h
  mglob (v := .int i) hg e ⟨_, rfl⟩ std_int hdb
theorem mgs {x : Str} {i : Str} {pos : Pos} (hg : Gl X x) (h : ∃ t, X.mg x = some (.str i t)) (hdb : (x == ("__debug__" : Str)) = false := by decide) : PE X (.Name x pos) (eM T X.K (cD (.str i))) :=
  let ⟨_, e⟩ := h
  mglob (v := .str i) hg e ⟨_, rfl⟩ std_str hdb
/-! ### a dict of the module -/
/-- what is known of the dict at d: keys that are there, keys that are not -/
def Kd (K : PySem.W.Frag) (d : Addr) (kn : List (Str × Option D)) : Prop := ∀ p ∈ kn, match p.2 with
  | none => PySem.W.nsIn K d p.1 = some none
  | some e => ∃ u v, PySem.W.nsIn K d p.1 = some (some u) ∧ RelV v u ∧ Std K e v
def kdLook (kn : List (Str × Option D)) (x : D) : M (Option D) := fun st => match x with
  | .str z => match look kn z with
    | some r => some (r, st)
    | none => none
  | _ => none
def kdIn (kn : List (Str × Option D)) (a : Es → M D) : Es → M D := fun es => do
  let x ← a es
  let r ← kdLook kn x
  pure (.bl r.isSome)
def kdNin (kn : List (Str × Option D)) (a : Es → M D) : Es → M D := fun es => do
  let x ← a es
  let r ← kdLook kn x
  pure (.bl (!r.isSome))
def kdIx (kn : List (Str × Option D)) (a : Es → M D) : Es → M D := fun es => do
  let x ← a es
  let r ← kdLook kn x
  match r with
    | some d => pure d
    | none => fail
theorem look_mem {κ β : Type} [DecidableEq κ] : ∀ {l : List (κ × β)} {k : κ} {b : β}, look l k = some b → (k, b) ∈ l
  | [], _, _, h => by cases h
  | p :: r, k, b, h => by
    unfold look at h
    by_cases e : p.1 = k
    · rw [if_pos e] at h
      cases h
      subst e
      exact List.mem_cons_self ..
    · rw [if_neg e] at h
      exact List.mem_cons_of_mem _ (look_mem h)
theorem kdLook_some {kn : List (Str × Option D)} {x : D} {st st' : S} {r : Option D} (h : kdLook kn x st = some (r, st')) : ∃ z, x = .str z ∧ (z, r) ∈ kn ∧ st' = st := by
  unfold kdLook at h
  cases x with
  | str z =>
    dsimp only at h
    cases q : look kn z with
    | none => rw [q] at h; cases h
    | some w => rw [q] at h; cases h; exact ⟨z, rfl, look_mem q, rfl⟩
  | _ => cases h
variable {a : Expr} {ma : Es → M D} {x : Str} {pos p : Pos} {d : Addr} {es0 : Array DictEntry} {n0 : Nat} {kn : List (Str × Option D)}
theorem kdIn_of {K : PySem.W.Frag} (hk : Kd K d kn) {σ : L2.St} {H : Hp} {Q : VK} (h : eM T K (kdIn kn ma) σ H Q) : tOp (fun x y H Q => ∃ (z : Str) (r : Option Value), x = .str z ∧ y = .ref d ∧ PySem.W.nsIn K d z = some r ∧ Q (.bl r.isSome) H) (eM T K ma) (tC (.ref d)) σ H Q := by
  obtain ⟨ρ, st, es, d1, st', R, Er, hr, k⟩ := h
  obtain ⟨y, s1, h1, h2⟩ := bind_some hr
  obtain ⟨r, s2, h3, h4⟩ := bind_some h2
  obtain ⟨z, rfl, hz, rfl⟩ := kdLook_some h3
  obtain ⟨rfl, rfl⟩ := pure_some h4
  refine ⟨ρ, st, es, _, _, R, Er, h1, fun ρ1 v1 H1 e1 R1 d2 => ?_⟩
  have q := hk _ hz
  cases r with
  | none => exact ⟨z, none, d2.str, rfl, q, k ρ1 _ H1 e1 R1 dr_bl⟩
  | some e => obtain ⟨u, v, q1, q2, q3⟩ := q; exact ⟨z, some u, d2.str, rfl, q1, k ρ1 _ H1 e1 R1 dr_bl⟩
theorem kdNin_of {K : PySem.W.Frag} (hk : Kd K d kn) {σ : L2.St} {H : Hp} {Q : VK} (h : eM T K (kdNin kn ma) σ H Q) : tOp (fun x y H Q => ∃ (z : Str) (r : Option Value), x = .str z ∧ y = .ref d ∧ PySem.W.nsIn K d z = some r ∧ Q (.bl (!r.isSome)) H) (eM T K ma) (tC (.ref d)) σ H Q := by
  obtain ⟨ρ, st, es, d1, st', R, Er, hr, k⟩ := h
  obtain ⟨y, s1, h1, h2⟩ := bind_some hr
  obtain ⟨r, s2, h3, h4⟩ := bind_some h2
  obtain ⟨z, rfl, hz, rfl⟩ := kdLook_some h3
  obtain ⟨rfl, rfl⟩ := pure_some h4
  refine ⟨ρ, st, es, _, _, R, Er, h1, fun ρ1 v1 H1 e1 R1 d2 => ?_⟩
  have q := hk _ hz
  cases r with
  | none => exact ⟨z, none, d2.str, rfl, q, k ρ1 _ H1 e1 R1 dr_bl⟩
  | some e => obtain ⟨u, v, q1, q2, q3⟩ := q; exact ⟨z, some u, d2.str, rfl, q1, k ρ1 _ H1 e1 R1 dr_bl⟩
theorem mkdIn (D0 : KDict X.K X.w d es0 n0) (hk : Kd X.K d kn) (hg : Gl X x) (hm : X.mg x = some (.ref d)) (ha : PE X a (eM T X.K ma)) (hdb : (x == ("__debug__" : Str)) = false := by decide) (hb : behindInMarks .In (.Name x p) = false := by with_unfolding_all rfl) :
    PE X (.Compare a [.In] [.Name x p] pos) (eM T X.K (kdIn kn ma)) := PE.as (pe_cmpR (op_in_kd D0) ha (pe_glob (v := .ref d) hg hm rfl hdb) hb) fun _ _ _ h => kdIn_of hk h
theorem mkdNin (D0 : KDict X.K X.w d es0 n0) (hk : Kd X.K d kn) (hg : Gl X x) (hm : X.mg x = some (.ref d)) (ha : PE X a (eM T X.K ma)) (hdb : (x == ("__debug__" : Str)) = false := by decide) (hb : behindInMarks .NotIn (.Name x p) = false := by with_unfolding_all rfl) :
    PE X (.Compare a [.NotIn] [.Name x p] pos) (eM T X.K (kdNin kn ma)) := PE.as (pe_cmpR (op_notIn_kd D0) ha (pe_glob (v := .ref d) hg hm rfl hdb) hb) fun _ _ _ h => kdNin_of hk h
theorem mtkdIn (D0 : KDict X.K X.w d es0 n0) (hk : Kd X.K d kn) (hg : Gl X x) (hm : X.mg x = some (.ref d)) (ha : PE X a (eM T X.K ma)) (hdb : (x == ("__debug__" : Str)) = false := by decide) (hb : behindInMarks .In (.Name x p) = false := by with_unfolding_all rfl) :
    PT X (.Compare a [.In] [.Name x p] pos) (tM T X.K (tstD (kdIn kn ma))) := PT.as (pt_cmpR (op_in_kd D0) ha (pe_glob (v := .ref d) hg hm rfl hdb) hb) fun _ _ _ h => kdIn_of hk (tst_of h)
theorem mtkdNin (D0 : KDict X.K X.w d es0 n0) (hk : Kd X.K d kn) (hg : Gl X x) (hm : X.mg x = some (.ref d)) (ha : PE X a (eM T X.K ma)) (hdb : (x == ("__debug__" : Str)) = false := by decide) (hb : behindInMarks .NotIn (.Name x p) = false := by with_unfolding_all rfl) :
    PT X (.Compare a [.NotIn] [.Name x p] pos) (tM T X.K (tstD (kdNin kn ma))) := PT.as (pt_cmpR (op_notIn_kd D0) ha (pe_glob (v := .ref d) hg hm rfl hdb) hb) fun _ _ _ h => kdNin_of hk (tst_of h)
theorem mkdIx (D0 : KDict X.K X.w d es0 n0) (hk : Kd X.K d kn) (hg : Gl X x) (hm : X.mg x = some (.ref d)) (ha : PE X a (eM T X.K ma)) (hdb : (x == ("__debug__" : Str)) = false := by decide) (hs : PlainIx a := by intro _ _; rfl) :
    PE X (.Subscript (.Name x p) a pos) (eM T X.K (kdIx kn ma)) :=
  PE.as (pe_ix ix_kdict (pe_glob (v := .ref d) hg hm rfl hdb) ha hs) fun σ H Q h => by
    obtain ⟨ρ, st, es, d1, st', R, Er, hr, k⟩ := h
    obtain ⟨y, s1, h1, h2⟩ := bind_some hr
    obtain ⟨r, s2, h3, h4⟩ := bind_some h2
    obtain ⟨z, rfl, hz, rfl⟩ := kdLook_some h3
    refine ⟨ρ, st, es, _, _, R, Er, h1, fun ρ1 v1 H1 e1 R1 d2 => ?_⟩
    have q := hk _ hz
    cases r with
    | none => cases h4
    | some e =>
      obtain ⟨rfl, rfl⟩ := pure_some h4
      obtain ⟨u, v, q1, q2, q3⟩ := q
      exact ⟨d, z, v, rfl, d2.str, ⟨es0, n0, u, D0.at_, D0.lit, q1, q2⟩, k ρ1 _ H1 e1 R1 (q3 _ _)⟩
end
end Mx
namespace Mx
open PySem PySem.Spec L2
theorem Rm.u1 {k : Nat} {A : Around} (h : Rm k A) : A.units + 1 < cLine := by have := h.r.un; omega
theorem Rm.u64 {k : Nat} {A : Around} (h : Rm k A) : A.units + 64 < cLine := by have := h.r.un; omega
theorem Rm.u65 {k : Nat} {A : Around} (h : Rm k A) : A.units + 65 < cLine := by have := h.r.un; omega
theorem Rm.u70 {k : Nat} {A : Around} (h : Rm k A) : A.units + 70 < cLine := by have := h.r.un; omega
theorem Rm.two {k : Nat} {A : Around} (h : Rm (k + 2) A) : Rm 2 A := h.mono (Nat.le_add_left _ _)
theorem bt_len : bootBuiltins "len" = some (.builtin "len") := by decide +kernel
theorem bt_isinstance : bootBuiltins "isinstance" = some (.builtin "isinstance") := by decide +kernel
theorem bt_all : bootBuiltins "all" = some (.builtin "all") := by decide +kernel
theorem bt_any : bootBuiltins "any" = some (.builtin "any") := by decide +kernel
theorem bt_abs : bootBuiltins "abs" = some (.builtin "abs") := by decide +kernel
theorem bt_max : bootBuiltins "max" = some (.builtin "max") := by decide +kernel
theorem bt_min : bootBuiltins "min" = some (.builtin "min") := by decide +kernel
theorem bt_repr : bootBuiltins "repr" = some (.builtin "repr") := by decide +kernel
theorem bt_tuple : bootBuiltins "tuple" = some (.type "tuple") := by decide +kernel
theorem bt_list : bootBuiltins "list" = some (.type "list") := by decide +kernel
theorem bt_int : bootBuiltins "int" = some (.type "int") := by decide +kernel
theorem bt_str : bootBuiltins "str" = some (.type "str") := by decide +kernel
theorem bt_dict : bootBuiltins "dict" = some (.type "dict") := by decide +kernel
end Mx


/-! Mx16: the end of a law. -/
namespace Mx
open PySem PySem.Spec L2

/-- no store yet, the script is a list that nobody writes -/
theorem rel_start {T : List (Addr × Str)} {K : PySem.W.Frag} {H : Hp} (t : LamX.Tabs T H) : Rel T K [] H [] := ⟨t, rfl, .nil, fun i a o h _ => by simp at h⟩
/-- the law's def, asked at the head's heap -/
theorem ask_law {P : Program} {w : World} {K : PySem.W.Frag} {mg mb : Str → Option Value} {k : Nat} {fa a : Addr} {cs : List (Addr × Addr × Str)} {fd : FuncData} {x : Str} {g : List D → M D} {s1 : Shared} {vs : List Value} {ns : List Int}
    (inK : K.In s1.heap) (nsG : s1.heap.Ns mainGlobals mg) (nsB : s1.heap.Ns builtinsNs mb) (boot : ∀ x : Str, x ≠ "__name__" → mb x = bootBuiltins x) (nolim : s1.heap.NoLimit) (nogen : s1.gens = #[])
    (empties : ∀ p ∈ cs, s1.heap.get? p.2.1 = some { cls := .none, data := .fields #[] }) (unk : ∀ p ∈ cs, K.lookup p.2.1 = none) (codes : ∀ p ∈ cs, PySem.W.CodeHd s1.heap p.1 p.2.1)
    (bmain : ∃ (bm : Addr) (ob : Obj), mg "__builtins__" = some (.ref bm) ∧ bm ≠ builtinsNs ∧ s1.heap.get? bm = some ob ∧ ob.cls = .type "module" ∧ ob.dict = some builtinsNs ∧ ob.data = .plain)
    (obj : s1.heap.get? a = some { cls := .type "list", data := .seq vs.toArray }) (iv : PyProof.Rows.IntsAre vs ns) (fits : ns.length ≤ sizeLine) (rm : Rm k callerA)
    (F : ∀ base : Heap, K.In base → base.Ns mainGlobals mg → (∀ p ∈ cs, LamX.TabB base mg p.1 p.2.1) → FnM (cs.map fun p => p.2) P w K mg base k fa fd [x] g) (bind : ∀ (s : Shared) (u : Value), BindsTo s fd ⟨[u], []⟩ [(x, u)])
    {st : S} (run : g [.rol (ns.map .int)] [] = some (.bl true, st)) :
    codeAny (model P w) callerA (.call (.ref fa) ⟨[.ref a], []⟩) (fun r s' => r = .ok (.ret (.bool true)) ∧ OldK s1.heap s'.heap ∧ s'.os = s1.os ∧ PyProof.Rows.AllBare s'.gens) s1 := by
  have rv := vals_ints iv
  have lv := iv.length
  have tabAt : ∀ b : Addr, b ∈ cs.map (fun p => p.2.1) → s1.heap.get? b = some { cls := .none, data := .fields #[] } := fun b hb => by
    obtain ⟨p, hp, e⟩ := List.mem_map.mp hb
    subst e
    exact empties p hp
  have aOut : a ∉ cs.map (fun p => p.2.1) := fun z => by
    have q := tabAt a z
    rw [obj] at q
    cases (congrArg Obj.data (Option.some.inj q) : Data.seq vs.toArray _ = Data.fields #[])
  have inT : ∀ p ∈ cs, p.2.1 ∈ cs.map (fun p => p.2.1) := fun p hp => List.mem_map.mpr ⟨p, hp, rfl⟩
  have main : ∀ H : Hp, (∀ p ∈ cs, H p.2.1 = some (.tbl #[])) → (∀ b, H b = none ∨ b ∈ cs.map (fun p => p.2.1) ∨ ∃ o xs, H b = some (.frz o (.lst xs))) → RoL K H a (ns.map V.int) → HOk P w H s1.heap → (∀ b, H b ≠ none → b = a ∨ b ∈ cs.map (fun p => p.2.1)) → (H a ≠ none → K.lookup a = none) →
      codeAny (model P w) callerA (.call (.ref fa) ⟨[.ref a], []⟩) (fun r s' => r = .ok (.ret (.bool true)) ∧ OldK s1.heap s'.heap ∧ s'.os = s1.os ∧ PyProof.Rows.AllBare s'.gens) s1 := by
    intro H hT hO hS ok dom unkA
    have kept : ∀ {b : Addr} {o : Obj}, s1.heap.get? b = some o → H b = none → (hidT s1.heap H).get? b = some o := fun e n => hidT_get e n
    have clear : ∀ {b : Addr} {o : Obj}, s1.heap.get? b = some o → (∀ us n, o.data ≠ .seq us n) → o.data ≠ .fields #[] → H b = none := fun {b o} e q1 q2 => by
      cases z : H b with
      | none => rfl
      | some u =>
        rcases dom b (by rw [z]; exact fun y => nomatch y) with y | y
        · subst y
          rw [obj] at e
          cases e
          exact absurd rfl (q1 _ _)
        · rw [tabAt b y] at e
          cases e
          exact absurd rfl q2
    have clearD : ∀ {b : Addr} {o : Obj} {es : Array DictEntry} {ep : Nat}, s1.heap.get? b = some o → o.data = .dict es ep → H b = none := fun {b o es ep} e d =>
      clear e (fun us n z => by rw [d] at z; cases z) fun z => by rw [d] at z; cases z
    have names : ∀ {b : Addr} {m : Str → Option Value}, s1.heap.Ns b m → (hidT s1.heap H).Ns b m := fun {b m} ⟨o, es, ep, e, d, r⟩ => ⟨o, es, ep, kept e (clearD e d), d, r⟩
    have inBase : K.In (hidT s1.heap H) := fun b o e => kept (inK b o e) (by
      cases z : H b with
      | none => rfl
      | some u =>
        rcases dom b (by rw [z]; exact fun y => nomatch y) with y | y
        · subst y
          rw [unkA (by rw [z]; exact fun y => nomatch y)] at e
          cases e
        · obtain ⟨p, hp, ep⟩ := List.mem_map.mp y
          subst ep
          rw [unk p hp] at e
          cases e)
    have md : L2.Mod K mg (hidT s1.heap H) := ⟨inBase, names nsG, ⟨mb, names nsB, boot⟩, let ⟨mc, q1, q2⟩ := nolim; ⟨mc, names q1, q2⟩⟩
    have tb : ∀ p ∈ cs, LamX.TabB (hidT s1.heap H) mg p.1 p.2.1 := fun p hp => by
      have tp := empties p hp
      have notG : ∀ {b : Addr} {ob : Obj}, s1.heap.get? b = some ob → (∀ es ep, ob.data ≠ .dict es ep) → b ≠ mainGlobals := fun {b ob} e n z => by
        obtain ⟨o, es, ep, e2, hd, _⟩ := nsG
        subst z
        rw [e2] at e
        cases e
        exact n es ep hd
      refine ⟨?_, ?_, fun y => notG tp (fun es ep z => by cases z) y.symm⟩
      · obtain ⟨o, us, file, tf, flags, tg, inF, text, tt, e1, r1, r2, r3, r4, r5, r6, r7, r8, r9⟩ := codes p hp
        exact ⟨o, us, file, tf, flags, tg, inF, text, tt, kept e1 (clear e1 (fun ws n z => by rw [r2] at z; cases z) fun z => by
          rw [r2] at z
          cases z
          simp at r3), r1, r2, r3, r4, r5, r6, r7, r8, r9⟩
      · obtain ⟨bm, ob, b1, b2, b3, b4, b5, b6⟩ := bmain
        have bp : bm ≠ p.2.1 := fun z => by
          subst z
          rw [tp] at b3
          cases b3
          cases b6
        exact ⟨bm, ob, b1, b2, notG b3 (fun es ep z => by rw [b6] at z; cases z), bp, kept b3 (clear b3 (fun ws n z => by rw [b6] at z; cases z) fun z => by rw [b6] at z; cases z), b4, b5, b6⟩
    have env : Env0 P w K mg (hidT s1.heap H) callerA [] s1 H := ⟨rfl, md, fun b o e => of_hidT e, Nat.le_of_eq (hidT_size _ _), trivial, fun b hb => absurd hb (List.not_mem_nil (a := b)), ok, .of_eq nogen⟩
    have tabs : LamX.Tabs (cs.map fun p => p.2) H := fun q hq => by
      obtain ⟨p, hp, e⟩ := List.mem_map.mp hq
      subst e
      exact LamX.TabS.nil (hT p hp)
    have ask : rnM (cs.map fun p => p.2) K g [V.ref a] H (fun v _ => v = .bl true) :=
      ⟨[], [], [.rol (ns.map .int)], .bl true, st, rel_start tabs, DRs.cons (by rw [DR]; exact ⟨a, _, rfl, hS, drs_ints ns⟩) DRs.nil, run, fun ρ' v H' _ _ d => d.bl⟩
    refine codeAny_mono ((F _ inBase (names nsG) tb).go callerA [] s1 H ⟨[.ref a], []⟩ [.ref a] [.ref a] _ rm env (bind s1 (.ref a)) (.cons rfl .nil) ask) fun r s' h => ?_
    cases r with
    | error e => exact h.elim
    | ok fl =>
      cases fl with
      | ret u =>
        obtain ⟨v, H', os, bare, un, ok', rel, ev⟩ := h
        have ev' : v = .bl true := ev
        subst ev'
        obtain rfl : u = Value.bool true := rel
        have still : ∀ b o, b ∉ cs.map (fun p => p.2.1) → s1.heap.get? b = some o → s'.heap.get? b = some o := fun b o nb e => by
          rcases hO b with z | z | ⟨ob, xs, z⟩
          · exact un.keep b o e z (List.not_mem_nil (a := b)) (List.not_mem_nil (a := b))
          · exact absurd z nb
          · have z2 := un.frzs b ob _ z
            have g1 := (ok b _ z).1
            have g2 := (ok' b _ z2).1
            rw [e] at g1
            cases g1
            exact g2
        have more : ∀ p ∈ cs, ∃ us : Array Value, s'.heap.get? p.2.1 = some { cls := .none, data := .fields us } := fun p hp => by
          obtain ⟨us, z⟩ := un.tbls p.2.1 #[] (hT p hp)
          exact ⟨_, ok' p.2.1 _ z⟩
        refine ⟨rfl, ⟨fun b o e => ?_, fun b o e => ?_⟩, os, bare⟩
        · by_cases hb : b ∈ cs.map (fun p => p.2.1)
          · obtain ⟨p, hp, ep⟩ := List.mem_map.mp hb
            obtain ⟨us, hu⟩ := more p hp
            subst ep
            rw [empties p hp] at e
            cases e
            exact .inr (.inl ⟨((codes p hp).tab (empties p hp)).isCodeTable, rfl, #[], us, rfl, by rw [Array.empty_append]; exact hu⟩)
          · exact .inl (still b o hb e)
        · by_cases hb : b ∈ cs.map (fun p => p.2.1)
          · obtain ⟨p, hp, ep⟩ := List.mem_map.mp hb
            obtain ⟨us, hu⟩ := more p hp
            subst ep
            exact ⟨_, hu⟩
          · exact ⟨o, still b o hb e⟩
      | _ => exact h.elim
  by_cases known : ∃ o, K.lookup a = some o
  · obtain ⟨o, hk⟩ := known
    have e := inK a o hk
    rw [obj] at e
    cases e
    have off : ∀ b, b ∉ cs.map (fun p => p.2.1) → (if b ∈ cs.map (fun p => p.2.1) then some (HO.tbl #[]) else none) = none := fun b hb => if_neg hb
    refine main (fun b => if b ∈ cs.map (fun p => p.2.1) then some (.tbl #[]) else none) (fun p hp => if_pos (inT p hp)) (fun b => ?_) (.inr ⟨_, vs.toArray, _, hk, rfl, rfl, rfl, by rw [List.size_toArray, lv]; exact fits, by simpa using rv⟩) (fun b u z => ?_) (fun b z => ?_) fun z => absurd (off a aOut) z
    · by_cases hb : b ∈ cs.map (fun p => p.2.1)
      · exact .inr (.inl hb)
      · exact .inl (off b hb)
    · by_cases hb : b ∈ cs.map (fun p => p.2.1)
      · cases (if_pos hb).symm.trans z
        exact tabAt b hb
      · cases (off b hb).symm.trans z
    · by_cases hb : b ∈ cs.map (fun p => p.2.1)
      · exact .inr hb
      · exact absurd (off b hb) z
  · have hk : K.lookup a = none := by
      cases z : K.lookup a with
      | none => rfl
      | some o => exact absurd ⟨o, z⟩ known
    have off : ∀ b, b ≠ a → b ∉ cs.map (fun p => p.2.1) → (if b = a then some (HO.frz { cls := .type "list", data := .seq vs.toArray } (.lst (ns.map V.int))) else if b ∈ cs.map (fun p => p.2.1) then some (.tbl #[]) else none) = none := fun b n1 n2 => (if_neg n1).trans (if_neg n2)
    have onT : ∀ b, b ∈ cs.map (fun p => p.2.1) → (if b = a then some (HO.frz { cls := .type "list", data := .seq vs.toArray } (.lst (ns.map V.int))) else if b ∈ cs.map (fun p => p.2.1) then some (.tbl #[]) else none) = some (.tbl #[]) := fun b hb => (if_neg (show ¬ b = a from fun z => aOut (z ▸ hb))).trans (if_pos hb)
    refine main (fun b => if b = a then some (.frz { cls := .type "list", data := .seq vs.toArray } (.lst (ns.map V.int))) else if b ∈ cs.map (fun p => p.2.1) then some (.tbl #[]) else none) (fun p hp => onT _ (inT p hp)) (fun b => ?_) (.inl ⟨_, if_pos rfl⟩) (fun b u z => ?_) (fun b z => ?_) fun _ => hk
    · by_cases e1 : b = a
      · exact .inr (.inr ⟨_, _, if_pos e1⟩)
      · by_cases e2 : b ∈ cs.map (fun p => p.2.1)
        · exact .inr (.inl e2)
        · exact .inl (off b e1 e2)
    · by_cases e1 : b = a
      · cases (if_pos e1).symm.trans z
        subst e1
        exact ⟨obj, by rw [List.length_map]; exact fits, vs, _, rv, obj⟩
      · by_cases e2 : b ∈ cs.map (fun p => p.2.1)
        · cases (onT b e2).symm.trans z
          exact tabAt b e2
        · cases (off b e1 e2).symm.trans z
    · by_cases e1 : b = a
      · exact .inl e1
      · by_cases e2 : b ∈ cs.map (fun p => p.2.1)
        · exact .inr e2
        · exact absurd (off b e1 e2) z
/-- the goal that the head leaves -/
theorem walk_M {l : PySem.W.OpenLaw} {n k : Nat} {q : Program} {loose : List Str} {XP : (Str → Option Value) → Heap → Prop} {YP : World → Heap → Prop} {d : DefRec} {K : Params → PySem.W.Frag} {x : Str} {g : List D → M D}
    (hn : l.most = some n) (hz : n ≤ sizeLine) (hdf : d.params.defaults = []) (rm : Rm k callerA) (inY : ∀ (w : World) (h : Heap), YP w h → (K w.params).In h)
    (F : ∀ (w : World) (mg : Str → Option Value) (fa : Addr) (h : Heap), YP w h → (K w.params).In h → h.Ns mainGlobals mg → mg d.name = some (.ref fa) →
      (∀ (x : Str) (e : DefRec) (c P : Addr), (PyProof.Rows.recsOf q).find? (fun e => e.name == x) = some e → PySem.W.tabIn (K w.params) x = some (c, P) → PySem.W.CodeHd h c P ∧ h.get? P = some { cls := .none, data := .fields #[] }) →
      ∃ (fd : FuncData) (cs : List (Addr × Addr × Str)), (∀ p ∈ cs, h.get? p.2.1 = some { cls := .none, data := .fields #[] }) ∧ (∀ p ∈ cs, (K w.params).lookup p.2.1 = none) ∧ (∀ p ∈ cs, PySem.W.CodeHd h p.1 p.2.1) ∧ (∀ (s : Shared) (u : Value), BindsTo s fd ⟨[u], []⟩ [(x, u)]) ∧
        ∀ base : Heap, (K w.params).In base → base.Ns mainGlobals mg → (∀ p ∈ cs, LamX.TabB base mg p.1 p.2.1) → FnM (cs.map fun p => p.2) l.prog w (K w.params) mg base k fa fd [x] g)
    (run : ∀ ns : List Int, ns.length ≤ n → (∀ z ∈ ns, Builtin.Int.intBits z ≤ 1048576) → ∃ st, g [.rol (ns.map .int)] [] = some (.bl true, st)) :
    PySem.W.WalkO q loose XP YP l.row.toRowW d [] (fun f vs => PySem.call f vs) := by
  refine Att.attach_callB hn hdf fun w s0 s1 mg mb fa o pm cd doc a vs ns G Y ho hd hcd hmg hobj hints hlen hbits hg => ?_
  have inK := inY w _ Y
  obtain ⟨fd, cs, h1, h2, h3, h4, h5⟩ := F w mg fa _ Y inK G.T.g hmg fun x e c P h1 h2 => PySem.W.tab_of G.T inK h1 h2
  obtain ⟨st, hrun⟩ := run ns hlen hbits
  exact ask_law inK G.T.g G.T.b G.T.builtins G.T.nolimit hg h1 h2 h3 G.T.bmain hobj hints (Nat.le_trans hlen hz) rm h5 h4 hrun
end Mx


/-! Mx17: what an M-program surely reaches. -/
namespace Mx
open PySem PySem.Spec L2

/-- m ends from st, and so that Q -/
def Rn {α : Type} (m : M α) (st : S) (Q : α → S → Prop) : Prop := match m st with
  | some (a, s) => Q a s
  | none => False
section
variable {α β : Type} {st : S}
theorem run_some {m : M α} {a : α} {s : S} {Q : α → S → Prop} (h : m st = some (a, s)) : Rn m st Q = Q a s := by unfold Rn; rw [h]
theorem Rn.get {m : M α} {Q : α → S → Prop} (h : Rn m st Q) : ∃ a s, m st = some (a, s) ∧ Q a s := by
  unfold Rn at h
  split at h
  · exact ⟨_, _, by assumption, h⟩
  · exact h.elim
theorem Rn.mono {m : M α} {Q Q' : α → S → Prop} (h : Rn m st Q) (i : ∀ a s, Q a s → Q' a s) : Rn m st Q' := by
  obtain ⟨a, s, e, q⟩ := h.get
  rw [run_some e]
  exact i a s q
@[simp] theorem run_pure {a : α} {Q : α → S → Prop} : Rn (pure a : M α) st Q = Q a st := rfl
@[simp] theorem run_bind {m : M α} {f : α → M β} {Q : β → S → Prop} : Rn (m >>= f) st Q = Rn m st fun a s => Rn (f a) s Q := by
  unfold Rn
  show (match (match m st with | none => none | some (a, s1) => f a s1) with | some (a, s) => Q a s | none => False) = _
  cases m st with
  | none => rfl
  | some p => rfl
@[simp] theorem run_fail {Q : α → S → Prop} : Rn (fail : M α) st Q = False := rfl
@[simp] theorem run_guard {c : Bool} {Q : Unit → S → Prop} : Rn (guardM c) st Q = (c = true ∧ Q () st) := by
  cases c
  · show False = _
    simp
  · show Q () st = _
    simp
@[simp] theorem run_ite {c : Bool} {a b : M α} {Q : α → S → Prop} : Rn (if c = true then a else b) st Q = if c = true then Rn a st Q else Rn b st Q := by cases c <;> rfl
/-! ### expressions -/
variable {es : Es} {Q : D → S → Prop} {QB : Bool → S → Prop} {QL : List D → S → Prop} {QS : Es × Fl → S → Prop}
@[simp] theorem run_var {i : Nat} : Rn (varD i es) st Q = match es[i]? with
    | some (some d) => Q d st
    | _ => False := by
  unfold Rn varD
  cases es[i]? with
  | none => rfl
  | some o => cases o <;> rfl
@[simp] theorem run_c {d : D} : Rn (cD d es) st Q = Q d st := rfl
@[simp] theorem run_op {g : D → D → M D} {a b : Es → M D} : Rn (opD g a b es) st Q = Rn (a es) st fun x s => Rn (b es) s fun y s2 => Rn (g x y) s2 Q := by
  unfold opD
  rw [run_bind]
  simp only [run_bind]
@[simp] theorem run_un {g : D → M D} {a : Es → M D} : Rn (unD g a es) st Q = Rn (a es) st fun x s => Rn (g x) s Q := by unfold unD; rw [run_bind]
@[simp] theorem run_bOf {d : D} : Rn (bOf d) st QB = match d with
    | .bl b => QB b st
    | _ => False := by cases d <;> rfl
@[simp] theorem run_and {a b : Es → M D} : Rn (andD a b es) st Q = Rn (a es) st fun x s => match x with
    | .bl true => Rn (b es) s Q
    | .bl false => Q (.bl false) s
    | _ => False := by
  unfold andD
  rw [run_bind]
  congr 1
  funext x s
  cases x with
  | bl q => cases q <;> rfl
  | _ => rfl
@[simp] theorem run_or {a b : Es → M D} : Rn (orD a b es) st Q = Rn (a es) st fun x s => match x with
    | .bl true => Q (.bl true) s
    | .bl false => Rn (b es) s Q
    | _ => False := by
  unfold orD
  rw [run_bind]
  congr 1
  funext x s
  cases x with
  | bl q => cases q <;> rfl
  | _ => rfl
@[simp] theorem run_not {a : Es → M D} : Rn (notD a es) st Q = Rn (a es) st fun x s => match x with
    | .bl b => Q (.bl (!b)) s
    | _ => False := by
  unfold notD
  rw [run_bind]
  congr 1
  funext x s
  cases x <;> rfl
@[simp] theorem run_tst {a : Es → M D} : Rn (tstD a es) st QB = Rn (a es) st fun x s => match x with
    | .bl b => QB b s
    | _ => False := by
  unfold tstD
  rw [run_bind]
  congr 1
  funext x s
  cases x <;> rfl
@[simp] theorem run_andT {a b : Es → M Bool} : Rn (andT a b es) st QB = Rn (a es) st fun x s => if x = true then Rn (b es) s QB else QB false s := by
  unfold andT
  rw [run_bind]
  congr 1
  funext x s
  cases x <;> rfl
@[simp] theorem run_orT {a b : Es → M Bool} : Rn (orT a b es) st QB = Rn (a es) st fun x s => if x = true then QB true s else Rn (b es) s QB := by
  unfold orT
  rw [run_bind]
  congr 1
  funext x s
  cases x <;> rfl
@[simp] theorem run_notT {a : Es → M Bool} : Rn (notT a es) st QB = Rn (a es) st fun x s => QB (!x) s := by unfold notT; rw [run_bind]; rfl
@[simp] theorem run_if {t : Es → M Bool} {a b : Es → M α} {QA : α → S → Prop} : Rn (ifD t a b es) st QA = Rn (t es) st fun x s => if x = true then Rn (a es) s QA else Rn (b es) s QA := by
  unfold ifD
  rw [run_bind]
  congr 1
  funext x s
  cases x <;> rfl
@[simp] theorem run_nilA : Rn (nilA es) st QL = QL [] st := rfl
@[simp] theorem run_consA {a : Es → M D} {r : Es → M (List D)} : Rn (consA a r es) st QL = Rn (a es) st fun x s => Rn (r es) s fun xs s2 => QL (x :: xs) s2 := by
  unfold consA
  rw [run_bind]
  simp only [run_bind, run_pure]
@[simp] theorem run_tup {a : Es → M (List D)} : Rn (tupD a es) st Q = Rn (a es) st fun xs s => xs.length ≤ sizeLine ∧ Q (.tup xs) s := by
  unfold tupD
  rw [run_bind]
  simp only [run_bind, run_guard, run_pure, decide_eq_true_eq]
@[simp] theorem run_new {o : O} : Rn (new o) st Q = Q (.ref st.length) (st ++ [o]) := rfl
@[simp] theorem run_lst {a : Es → M (List D)} : Rn (lstD a es) st Q = Rn (a es) st fun xs s => xs.length ≤ sizeLine ∧ Q (.ref s.length) (s ++ [.lst xs]) := by
  unfold lstD
  rw [run_bind]
  simp only [run_bind, run_guard, run_new, decide_eq_true_eq]
@[simp] theorem run_call {g : List D → M D} {a : Es → M (List D)} : Rn (callD g a es) st Q = Rn (a es) st fun xs s => Rn (g xs) s Q := by unfold callD; rw [run_bind]
@[simp] theorem run_callK {g : List D → M D} {w : List D → List D} {a : Es → M (List D)} : Rn (callKD g w a es) st Q = Rn (a es) st fun xs s => Rn (g (w xs)) s Q := by unfold callKD; rw [run_bind]
@[simp] theorem run_lm {g : D → List D → M D} {o : Es → M D} {a : Es → M (List D)} : Rn (lmD g o a es) st Q = Rn (o es) st fun x s => Rn (isLst x) s fun _ s2 => Rn (a es) s2 fun xs s3 => Rn (g x xs) s3 Q := by
  unfold lmD
  simp only [run_bind]
@[simp] theorem run_sli {a : Es → M D} {lo hi : Pt} : Rn (sliD a lo hi es) st Q = Rn (a es) st fun x s => Rn (lo.run es) s fun l s2 => Rn (hi.run es) s2 fun u s3 => Rn (slD x l u) s3 Q := by
  unfold sliD
  simp only [run_bind]
@[simp] theorem run_ptno {QO : Option Int → S → Prop} : Rn (Pt.no.run es) st QO = QO none st := rfl
@[simp] theorem run_ptat {m : Es → M D} {QO : Option Int → S → Prop} : Rn ((Pt.at m).run es) st QO = Rn (m es) st fun x s => match x with
    | .int i => QO (some i) s
    | _ => False := by
  show Rn ((m es) >>= _) st QO = _
  rw [run_bind]
  congr 1
  funext x s
  cases x <;> rfl
/-! ### statements -/
@[simp] theorem run_nx : Rn (nxS es) st QS = QS (es, .nx) st := rfl
@[simp] theorem run_ct : Rn (ctS es) st QS = QS (es, .ct) st := rfl
@[simp] theorem run_ret {a : Es → M D} : Rn (retS a es) st QS = Rn (a es) st fun x s => QS (es, .rt x) s := by unfold retS; rw [run_bind]; rfl
@[simp] theorem run_drop {a : Es → M D} : Rn (dropS a es) st QS = Rn (a es) st fun _ s => QS (es, .nx) s := by unfold dropS; rw [run_bind]; rfl
@[simp] theorem run_seq {a b : Es → M (Es × Fl)} : Rn (seqS a b es) st QS = Rn (a es) st fun p s => match p.2 with
    | .nx => Rn (b p.1) s QS
    | _ => QS p s := by
  unfold seqS
  rw [run_bind]
  congr 1
  funext p s
  obtain ⟨e, f⟩ := p
  cases f <;> rfl
@[simp] theorem run_asg {a : Es → M D} {g : D → Es → M Es} : Rn (asgS a g es) st QS = Rn (a es) st fun x s => Rn (g x es) s fun e s2 => QS (e, .nx) s2 := by
  unfold asgS
  simp only [run_bind, run_pure]
@[simp] theorem run_name {i : Nat} {d : D} {QE : Es → S → Prop} : Rn (nameG i d es) st QE = QE (es.set i (some d)) st := rfl
@[simp] theorem run_nilG {QE : Es → S → Prop} : Rn (nilG [] es) st QE = QE es st := rfl
@[simp] theorem run_consG {d : D} {ds : List D} {g : D → Es → M Es} {r : List D → Es → M Es} {QE : Es → S → Prop} : Rn (consG g r (d :: ds) es) st QE = Rn (g d es) st fun e s => Rn (r ds e) s QE := by
  show Rn ((g d es) >>= _) st QE = _
  rw [run_bind]
@[simp] theorem run_tupG {n : Nat} {ds : List D} {g : List D → Es → M Es} {QE : Es → S → Prop} : Rn (tupG n g (.tup ds) es) st QE = (ds.length = n ∧ Rn (g ds es) st QE) := by
  show Rn ((guardM (decide (ds.length = n))) >>= _) st QE = _
  rw [run_bind, run_guard, decide_eq_true_eq]
@[simp] theorem run_par {i j : Nat} {a : Es → M (List D)} : Rn (parS i j a es) st QS = Rn (a es) st fun ds s => match ds with
    | [x, y] => QS ((es.set i (some x)).set j (some y), .nx) s
    | _ => False := by
  unfold parS
  rw [run_bind]
  congr 1
  funext ds s
  match ds with
  | [x, y] => rfl
  | [] => rfl
  | [_] => rfl
  | _ :: _ :: _ :: _ => rfl
@[simp] theorem run_aug {i : Nat} {me : Es → M D} {g : D → D → M D} : Rn (augS i me g es) st QS = Rn (varD i es) st fun x s => Rn (me es) s fun y s2 => Rn (g x y) s2 fun z s3 => QS (es.set i (some z), .nx) s3 := by
  unfold augS
  simp only [run_bind, run_pure]
/-! ### defs -/
@[simp] theorem run_fn {np n : Nat} {b : Es → M (Es × Fl)} {as : List D} : Rn (fnD np n b as) st Q = (as.length = np ∧ Rn (b (as.map some ++ List.replicate (n - as.length) none)) st fun p s => match p.2 with
    | .rt d => Q d s
    | .nx => Q .non s
    | _ => False) := by
  unfold Rn fnD
  by_cases h : as.length = np
  · rw [if_pos h]
    have e : Rn (runB n b as) st Q = Rn (b (as.map some ++ List.replicate (n - as.length) none)) st fun p s => match p.2 with
      | .rt d => Q d s
      | .nx => Q .non s
      | _ => False := by
      unfold runB
      rw [run_bind]
      congr 1
      funext p s
      obtain ⟨e, f⟩ := p
      cases f <;> rfl
    unfold Rn at e
    rw [e]
    simp [h]
  · rw [if_neg h]
    simp [h]
/-! ### a loop, by an invariant -/
theorem run_for {s : Src} {g : D → Es → M Es} {b : Es → M (Es × Fl)} {ds : List D} (Inv : Nat → Es → S → Prop) (hat : ∀ i es st, Inv i es st → s.at st i = lapOf ds[i]?)
    (step : ∀ i d es st, ds[i]? = some d → Inv i es st → Rn (g d es) st fun e s2 => Rn (b e) s2 fun p s3 => match p.2 with
      | .nx => Inv (i + 1) p.1 s3
      | .ct => Inv (i + 1) p.1 s3
      | .bk => QS (p.1, .nx) s3
      | .rt d => QS (p.1, .rt d) s3)
    (fin : ∀ es st, Inv ds.length es st → QS (es, .nx) st) : ∀ (n i : Nat) (es : Es) (st : S), ds.length < n + i → i ≤ ds.length → Inv i es st → Rn (lapS s g b n i es) st QS
  | 0, i, es, st, hn, hi, _ => by omega
  | n + 1, i, es, st, hn, hi, hI => by
    have e := hat i es st hI
    unfold Rn lapS
    by_cases h : i < ds.length
    · have hd : ds[i]? = some ds[i] := List.getElem?_eq_getElem h
      rw [hd] at e
      rw [e]
      have q := step i ds[i] es st hd hI
      have q2 : Rn (do
        let es1 ← g ds[i] es
        let p ← b es1
        match p.2 with
          | .nx => lapS s g b n (i + 1) p.1
          | .ct => lapS s g b n (i + 1) p.1
          | .bk => pure (p.1, .nx)
          | .rt d => pure (p.1, .rt d)) st QS := by
        rw [run_bind]
        refine q.mono fun e1 s1 q1 => ?_
        rw [run_bind]
        refine q1.mono fun p s2 q3 => ?_
        obtain ⟨es2, f⟩ := p
        cases f with
        | nx => exact run_for Inv hat step fin n (i + 1) es2 s2 (by omega) h q3
        | ct => exact run_for Inv hat step fin n (i + 1) es2 s2 (by omega) h q3
        | bk => exact q3
        | rt d => exact q3
      exact q2
    · have hd : ds[i]? = none := List.getElem?_eq_none (by omega)
      have hie : i = ds.length := by omega
      rw [hd] at e
      rw [e]
      subst hie
      exact fin es st hI
@[simp] theorem run_forS {L : Nat} {src : Es → M Src} {g : D → Es → M Es} {b : Es → M (Es × Fl)} : Rn (forS L src g b es) st QS = Rn (src es) st fun s s1 => Rn (lapS s g b L 0 es) s1 QS := by unfold forS; rw [run_bind]
theorem run_lapC {s : Src} {g : D → Es → M Es} {t : Es → M Bool} {e : Es → M D} {es0 : Es} {ds : List D} (Inv : Nat → List D → S → Prop) (hat : ∀ i acc st, Inv i acc st → s.at st i = lapOf ds[i]?)
    (step : ∀ i d acc st, ds[i]? = some d → Inv i acc st → Rn (g d es0) st fun e1 s2 => Rn (t e1) s2 fun q s3 => if q = true then Rn (e e1) s3 fun y s4 => acc.length < sizeLine ∧ Inv (i + 1) (acc ++ [y]) s4 else Inv (i + 1) acc s3)
    (fin : ∀ acc st, Inv ds.length acc st → QL acc st) : ∀ (n i : Nat) (acc : List D) (st : S), ds.length < n + i → i ≤ ds.length → Inv i acc st → Rn (lapC s g t e es0 n i acc) st QL
  | 0, i, acc, st, hn, hi, _ => by omega
  | n + 1, i, acc, st, hn, hi, hI => by
    have ea := hat i acc st hI
    unfold Rn lapC
    by_cases h : i < ds.length
    · have hd : ds[i]? = some ds[i] := List.getElem?_eq_getElem h
      rw [hd] at ea
      rw [ea]
      have q2 : Rn (do
        let es1 ← g ds[i] es0
        let q ← t es1
        if q then do
          let y ← e es1
          guardM (decide (acc.length < sizeLine))
          lapC s g t e es0 n (i + 1) (acc ++ [y])
        else lapC s g t e es0 n (i + 1) acc) st QL := by
        rw [run_bind]
        refine (step i ds[i] acc st hd hI).mono fun e1 s1 q1 => ?_
        rw [run_bind]
        refine q1.mono fun q s2 q3 => ?_
        cases q with
        | false => exact run_lapC Inv hat step fin n (i + 1) acc s2 (by omega) h q3
        | true =>
          show Rn (e e1 >>= _) s2 QL
          rw [run_bind]
          refine Rn.mono q3 fun y s3 q4 => ?_
          rw [run_bind, run_guard, decide_eq_true_eq]
          exact ⟨q4.1, run_lapC Inv hat step fin n (i + 1) _ s3 (by omega) h q4.2⟩
      exact q2
    · have hd : ds[i]? = none := List.getElem?_eq_none (by omega)
      have hie : i = ds.length := by omega
      rw [hd] at ea
      rw [ea]
      subst hie
      exact fin acc st hI
@[simp] theorem run_lc {L : Nat} {vs : List Nat} {src : Es → M Src} {g : D → Es → M Es} {t : Es → M Bool} {e : Es → M D} : Rn (lcD L vs src g t e es) st Q = Rn (src es) st fun s s1 => Rn (lapC s g t e (wipeE es vs) L 0 []) s1 fun ds s2 => Q (.ref s2.length) (s2 ++ [.lst ds]) := by
  unfold lcD
  simp only [run_bind, run_new]
@[simp] theorem run_over {me : Es → M D} {QR : Src → S → Prop} : Rn (overS me es) st QR = Rn (me es) st fun x s => Rn (seqSrc x) s QR := by unfold overS; rw [run_bind]
end
end Mx


/-! Mx18: what the operators surely give. -/
namespace Mx
open PySem PySem.Spec L2

section
variable {α : Type} {st : S} {Q : D → S → Prop} {QB : Bool → S → Prop} {x y z : D} {r : List D}
@[simp] theorem run_blM {m : M Bool} : Rn (blM m) st Q = Rn m st fun b s => Q (.bl b) s := by unfold blM; rw [run_bind]; rfl
@[simp] theorem run_notM {m : M Bool} : Rn (notM m) st QB = Rn m st fun b s => QB (!b) s := by unfold notM; rw [run_bind]; rfl
theorem run_eqD {a b : D} : Rn (eqD a b) st QB = match toPy st 64 a, toPy st 64 b with
    | some p, some q => QB (PyData.eqv p q) st
    | _, _ => False := by
  unfold Rn eqD
  cases toPy st 64 a with
  | none => rfl
  | some p => cases toPy st 64 b <;> rfl
theorem run_eqO {a b : D} : Rn (eqO a b) st Q = match toPy st 64 a, toPy st 64 b with
    | some p, some q => Q (.bl (PyData.eqv p q)) st
    | _, _ => False := by unfold eqO; rw [run_blM, run_eqD]
theorem run_neO {a b : D} : Rn (neO a b) st Q = match toPy st 64 a, toPy st 64 b with
    | some p, some q => Q (.bl (!PyData.eqv p q)) st
    | _, _ => False := by unfold neO; rw [run_blM, run_notM, run_eqD]
theorem toPy_str {n : Nat} {x : Str} (h : PyData.strOk x = true) : toPy st (n + 1) (.str x) = some (.str x) := by
  show (if PyData.strOk x = true then some (PyData.str x) else none) = _
  rw [if_pos h]
theorem run_eqS {a b : Str} (ha : PyData.strOk a = true) (hb : PyData.strOk b = true) : Rn (eqO (.str a) (.str b)) st Q = Q (.bl (decide (a = b))) st := by
  rw [run_eqO, toPy_str ha, toPy_str hb]
  show Q (.bl (PyData.eqv (.str a) (.str b))) st = _
  rw [PyData.eqv]
  rfl
@[simp] theorem run_eqI {a b : Int} : Rn (eqO (.int a) (.int b)) st Q = Q (.bl (decide (a = b))) st := by
  rw [run_eqO]
  show Q (.bl (PyData.eqv (.int a) (.int b))) st = _
  rw [PyData.eqv]
  rfl
@[simp] theorem run_neI {a b : Int} : Rn (neO (.int a) (.int b)) st Q = Q (.bl (!decide (a = b))) st := by
  rw [run_neO]
  show Q (.bl (!PyData.eqv (.int a) (.int b))) st = _
  rw [PyData.eqv]
  rfl
@[simp] theorem run_eqB {a b : Bool} : Rn (eqO (.bl a) (.bl b)) st Q = Q (.bl (a == b)) st := by
  rw [run_eqO]
  show Q (.bl (PyData.eqv (.bool a) (.bool b))) st = _
  rw [PyData.eqv]
@[simp] theorem run_neB {a b : Bool} : Rn (neO (.bl a) (.bl b)) st Q = Q (.bl (!(a == b))) st := by
  rw [run_neO]
  show Q (.bl (!PyData.eqv (.bool a) (.bool b))) st = _
  rw [PyData.eqv]
@[simp] theorem run_ltI {a b : Int} : Rn (ltO (.int a) (.int b)) st Q = Q (.bl (decide (a < b))) st := rfl
@[simp] theorem run_gtI {a b : Int} : Rn (gtO (.int a) (.int b)) st Q = Q (.bl (decide (b < a))) st := rfl
@[simp] theorem run_leI {a b : Int} : Rn (leO (.int a) (.int b)) st Q = Q (.bl (decide (a ≤ b))) st := rfl
@[simp] theorem run_geI {a b : Int} : Rn (geO (.int a) (.int b)) st Q = Q (.bl (decide (b ≤ a))) st := rfl
@[simp] theorem run_ofO {o : Option D} : Rn (ofO o) st Q = match o with
    | some d => Q d st
    | none => False := by cases o <;> rfl
@[simp] theorem at0 : L2.atI (x :: r) 0 = some x := by
  unfold L2.atI ixN
  rw [if_pos (by omega), if_pos (by rw [List.length_cons]; omega)]
  rfl
@[simp] theorem at1 : L2.atI (x :: y :: r) 1 = some y := by
  unfold L2.atI ixN
  rw [if_pos (by omega), if_pos (by rw [List.length_cons, List.length_cons]; omega)]
  rfl
@[simp] theorem at2 : L2.atI (x :: y :: z :: r) 2 = some z := by
  unfold L2.atI ixN
  rw [if_pos (by omega), if_pos (by rw [List.length_cons, List.length_cons, List.length_cons]; omega)]
  rfl
@[simp] theorem run_ix0 : Rn (ixD (.tup (x :: r)) (.int 0)) st Q = Q x st := by
  show Rn (ofO (L2.atI (x :: r) 0)) st Q = _
  rw [at0]
  rfl
@[simp] theorem run_ix1 : Rn (ixD (.tup (x :: y :: r)) (.int 1)) st Q = Q y st := by
  show Rn (ofO (L2.atI (x :: y :: r) 1)) st Q = _
  rw [at1]
  rfl
@[simp] theorem run_ix2 : Rn (ixD (.tup (x :: y :: z :: r)) (.int 2)) st Q = Q z st := by
  show Rn (ofO (L2.atI (x :: y :: z :: r) 2)) st Q = _
  rw [at2]
  rfl
@[simp] theorem run_sl1 : Rn (slD (.tup (x :: r)) (some 1) none) st Q = Q (.tup r) st := by
  show Q (.tup (cutD (x :: r) (some 1) none)) st = _
  have e : cutD (x :: r) (some 1) none = r := by
    unfold cutD HT.sIx
    simp
  rw [e]
@[simp] theorem run_seqT {ds : List D} {QR : Src → S → Prop} : Rn (seqSrc (.tup ds)) st QR = QR (.seq ds) st := rfl
@[simp] theorem run_lenT {ds : List D} : Rn (on1 lenD [.tup ds]) st Q = Q (.int ds.length) st := rfl
@[simp] theorem run_addT {a b : List D} : Rn (addD (.tup a) (.tup b)) st Q = (a.length + b.length ≤ sizeLine ∧ Q (.tup (a ++ b)) st) := by
  show Rn (guardM _ >>= _) st Q = _
  rw [run_bind, run_guard, decide_eq_true_eq]
  rfl
@[simp] theorem run_iaddT {a b : List D} : Rn (iaddD (.tup a) (.tup b)) st Q = (a.length + b.length ≤ sizeLine ∧ Q (.tup (a ++ b)) st) := by
  show Rn (guardM _ >>= _) st Q = _
  rw [run_bind, run_guard, decide_eq_true_eq]
  rfl
@[simp] theorem run_addI {a b : Int} : Rn (binD .Add (.int a) (.int b)) st Q = Q (.int (a + b)) st := rfl
@[simp] theorem run_subI {a b : Int} : Rn (binD .Sub (.int a) (.int b)) st Q = Q (.int (a - b)) st := rfl
end

/-- m answers d, whatever the store, and only adds to it -/
def Gv (m : M D) (d : D) : Prop := ∀ st, ∃ ex, m st = some (d, st ++ ex)
theorem Gv.run {m : M D} {d : D} (h : Gv m d) {st : S} {Q : D → S → Prop} (q : ∀ ex, Q d (st ++ ex)) : Rn m st Q := by
  obtain ⟨ex, e⟩ := h st
  rw [run_some e]
  exact q ex
theorem gv_of {m : M D} {d : D} (h : ∀ st, Rn m st fun d' s => d' = d ∧ ∃ ex, s = st ++ ex) : Gv m d := fun st => by
  obtain ⟨a, s, e, rfl, ex, rfl⟩ := (h st).get
  exact ⟨ex, e⟩
/-- m answers a new list of ds, and only adds to the store -/
def Gn (m : M D) (ds : List D) : Prop := ∀ st, ∃ n ex, m st = some (.ref n, st ++ ex) ∧ st.length ≤ n ∧ (st ++ ex)[n]? = some (.lst ds)
theorem Gn.run {m : M D} {ds : List D} (h : Gn m ds) {st : S} {Q : D → S → Prop} (q : ∀ n ex, st.length ≤ n → (st ++ ex)[n]? = some (.lst ds) → Q (.ref n) (st ++ ex)) : Rn m st Q := by
  obtain ⟨n, ex, e, h1, h2⟩ := h st
  rw [run_some e]
  exact q n ex h1 h2
theorem gl_of {m : M D} {ds : List D} (h : ∀ st, Rn m st fun d s => ∃ n ex, d = .ref n ∧ s = st ++ ex ∧ st.length ≤ n ∧ s[n]? = some (.lst ds)) : Gn m ds := fun st => by
  obtain ⟨a, s, e, n, ex, rfl, rfl, h1, h2⟩ := (h st).get
  exact ⟨n, ex, e, h1, h2⟩
end Mx


namespace K35
open PySem PySem.Spec L2 Mx
def top (i : Nat) : Stmt := PySem.Challenge.pw_earlysettled_k35_whole_patterns_and_plac.main.body.getD i (.Pass ⟨0, 0, 0, 0⟩)
inductive Fn where
  | Fis_pattern_within
  | Fis_pattern
  | Fplaces_of
  | Fjoined_moves
  | Fmoves_from
  | Fmoves_of
  | F_law_begun
  | F_law_mixed
  | F_law_draw
  | F_law_pick
  | F_law_plain
  | F_law_is
  | F_law_some_pattern
  | F_law_hollow
  | F_law_rest
  | F_law_behind_item
  | F_law_left
  | F_law_items
  | F_law_numbered
  | F_law_takes
  | F_law_goes
  | F_law_deep
  | F_law_due
  | Flaw
def Fn.nm : Fn → Str
  | .Fis_pattern_within => "is_pattern_within"
  | .Fis_pattern => "is_pattern"
  | .Fplaces_of => "places_of"
  | .Fjoined_moves => "joined_moves"
  | .Fmoves_from => "moves_from"
  | .Fmoves_of => "moves_of"
  | .F_law_begun => "_law_begun"
  | .F_law_mixed => "_law_mixed"
  | .F_law_draw => "_law_draw"
  | .F_law_pick => "_law_pick"
  | .F_law_plain => "_law_plain"
  | .F_law_is => "_law_is"
  | .F_law_some_pattern => "_law_some_pattern"
  | .F_law_hollow => "_law_hollow"
  | .F_law_rest => "_law_rest"
  | .F_law_behind_item => "_law_behind_item"
  | .F_law_left => "_law_left"
  | .F_law_items => "_law_items"
  | .F_law_numbered => "_law_numbered"
  | .F_law_takes => "_law_takes"
  | .F_law_goes => "_law_goes"
  | .F_law_deep => "_law_deep"
  | .F_law_due => "_law_due"
  | .Flaw => "law"
def Fn.ps : Fn → List Str
  | .Fis_pattern_within => ["thing", "names", "deep"]
  | .Fis_pattern => ["thing", "names"]
  | .Fplaces_of => ["pattern"]
  | .Fjoined_moves => ["one", "other", "is_row"]
  | .Fmoves_from => ["pattern", "first"]
  | .Fmoves_of => ["pattern"]
  | .F_law_begun => ["script"]
  | .F_law_mixed => ["state"]
  | .F_law_draw => ["state", "room"]
  | .F_law_pick => ["state", "some"]
  | .F_law_plain => ["value"]
  | .F_law_is => ["found", "due"]
  | .F_law_some_pattern => ["state", "names", "deep"]
  | .F_law_hollow => ["pattern"]
  | .F_law_rest => ["one", "other"]
  | .F_law_behind_item => ["pattern", "lot"]
  | .F_law_left => ["patterns", "lot"]
  | .F_law_items => ["pattern"]
  | .F_law_numbered => ["pattern", "first"]
  | .F_law_takes => ["pattern", "row"]
  | .F_law_goes => ["moves", "row"]
  | .F_law_deep => ["pattern"]
  | .F_law_due => ["thing"]
  | .Flaw => ["script"]
def Fn.ns : Fn → List Str
  | .Fis_pattern_within => ["thing", "names", "deep", "one"]
  | .Fis_pattern => ["thing", "names"]
  | .Fplaces_of => ["pattern", "found", "one"]
  | .Fjoined_moves => ["one", "other", "is_row", "firsts", "follows", "ends", "is_empty", "later", "more", "stops", "may_lack", "both", "place"]
  | .Fmoves_from => ["pattern", "first", "one", "follows", "place", "other"]
  | .Fmoves_of => ["pattern", "firsts", "follows", "ends", "is_empty", "later", "place"]
  | .F_law_begun => ["script", "great", "cell"]
  | .F_law_mixed => ["state", "turn", "found", "prime", "blend", "cell"]
  | .F_law_draw => ["state", "room", "found"]
  | .F_law_pick => ["state", "some"]
  | .F_law_plain => ["value", "one"]
  | .F_law_is => ["found", "due"]
  | .F_law_some_pattern => ["state", "names", "deep", "way"]
  | .F_law_hollow => ["pattern", "one", "other"]
  | .F_law_rest => ["one", "other"]
  | .F_law_behind_item => ["pattern", "lot", "found", "nth", "one"]
  | .F_law_left => ["patterns", "lot", "found", "pattern", "one"]
  | .F_law_items => ["pattern", "found", "one"]
  | .F_law_numbered => ["pattern", "first", "found", "one"]
  | .F_law_takes => ["pattern", "row", "left", "name", "one"]
  | .F_law_goes => ["moves", "row", "firsts", "follows", "ends", "hollow", "steps_right", "one", "other"]
  | .F_law_deep => ["pattern", "one"]
  | .F_law_due => ["thing", "one"]
  | .Flaw => ["script", "state", "lap", "pattern", "items", "right", "moves", "many", "numbered", "rows", "size", "longer", "row", "turn", "deep", "wide", "thing", "due", "some", "place", "nth"]
def Fn.st : Fn → Stmt
  | .Fis_pattern_within => top 4
  | .Fis_pattern => top 5
  | .Fplaces_of => top 6
  | .Fjoined_moves => top 7
  | .Fmoves_from => top 8
  | .Fmoves_of => top 9
  | .F_law_begun => top 11
  | .F_law_mixed => top 12
  | .F_law_draw => top 13
  | .F_law_pick => top 14
  | .F_law_plain => top 15
  | .F_law_is => top 16
  | .F_law_some_pattern => top 17
  | .F_law_hollow => top 18
  | .F_law_rest => top 19
  | .F_law_behind_item => top 20
  | .F_law_left => top 21
  | .F_law_items => top 22
  | .F_law_numbered => top 23
  | .F_law_takes => top 24
  | .F_law_goes => top 25
  | .F_law_deep => top 26
  | .F_law_due => top 27
  | .Flaw => top 28
def kn_PARTS : List (Str × Option D) := [("none", some (.int 1)), ("item", some (.int 2)), ("row", some (.int 3)), ("either", some (.int 3)), ("many", some (.int 2)), ("some", none)]
theorem sc_is_pattern_within : FnScope (Fn.ns .Fis_pattern_within) (Fn.ps .Fis_pattern_within) (defScope (top 4)) := ⟨rfl, rfl, rfl, by decide +kernel, rfl, by decide +kernel, by decide +kernel⟩
theorem sc_is_pattern : FnScope (Fn.ns .Fis_pattern) (Fn.ps .Fis_pattern) (defScope (top 5)) := ⟨rfl, rfl, rfl, by decide +kernel, rfl, by decide +kernel, by decide +kernel⟩
theorem sc_places_of : FnScope (Fn.ns .Fplaces_of) (Fn.ps .Fplaces_of) (defScope (top 6)) := ⟨rfl, rfl, rfl, by decide +kernel, rfl, by decide +kernel, by decide +kernel⟩
theorem sc_joined_moves : FnScope (Fn.ns .Fjoined_moves) (Fn.ps .Fjoined_moves) (defScope (top 7)) := ⟨rfl, rfl, rfl, by decide +kernel, rfl, by decide +kernel, by decide +kernel⟩
theorem sc_moves_from : FnScope (Fn.ns .Fmoves_from) (Fn.ps .Fmoves_from) (defScope (top 8)) := ⟨rfl, rfl, rfl, by decide +kernel, rfl, by decide +kernel, by decide +kernel⟩
theorem sc_moves_of : FnScope (Fn.ns .Fmoves_of) (Fn.ps .Fmoves_of) (defScope (top 9)) := ⟨rfl, rfl, rfl, by decide +kernel, rfl, by decide +kernel, by decide +kernel⟩
theorem sc__law_begun : FnScope (Fn.ns .F_law_begun) (Fn.ps .F_law_begun) (defScope (top 11)) := ⟨rfl, rfl, rfl, by decide +kernel, rfl, by decide +kernel, by decide +kernel⟩
theorem sc__law_mixed : FnScope (Fn.ns .F_law_mixed) (Fn.ps .F_law_mixed) (defScope (top 12)) := ⟨rfl, rfl, rfl, by decide +kernel, rfl, by decide +kernel, by decide +kernel⟩
theorem sc__law_draw : FnScope (Fn.ns .F_law_draw) (Fn.ps .F_law_draw) (defScope (top 13)) := ⟨rfl, rfl, rfl, by decide +kernel, rfl, by decide +kernel, by decide +kernel⟩
theorem sc__law_pick : FnScope (Fn.ns .F_law_pick) (Fn.ps .F_law_pick) (defScope (top 14)) := ⟨rfl, rfl, rfl, by decide +kernel, rfl, by decide +kernel, by decide +kernel⟩
theorem sc__law_plain : FnScope (Fn.ns .F_law_plain) (Fn.ps .F_law_plain) (defScope (top 15)) := ⟨rfl, rfl, rfl, by decide +kernel, rfl, by decide +kernel, by decide +kernel⟩
theorem sc__law_is : FnScope (Fn.ns .F_law_is) (Fn.ps .F_law_is) (defScope (top 16)) := ⟨rfl, rfl, rfl, by decide +kernel, rfl, by decide +kernel, by decide +kernel⟩
theorem sc__law_some_pattern : FnScope (Fn.ns .F_law_some_pattern) (Fn.ps .F_law_some_pattern) (defScope (top 17)) := ⟨rfl, rfl, rfl, by decide +kernel, rfl, by decide +kernel, by decide +kernel⟩
theorem sc__law_hollow : FnScope (Fn.ns .F_law_hollow) (Fn.ps .F_law_hollow) (defScope (top 18)) := ⟨rfl, rfl, rfl, by decide +kernel, rfl, by decide +kernel, by decide +kernel⟩
theorem sc__law_rest : FnScope (Fn.ns .F_law_rest) (Fn.ps .F_law_rest) (defScope (top 19)) := ⟨rfl, rfl, rfl, by decide +kernel, rfl, by decide +kernel, by decide +kernel⟩
theorem sc__law_behind_item : FnScope (Fn.ns .F_law_behind_item) (Fn.ps .F_law_behind_item) (defScope (top 20)) := ⟨rfl, rfl, rfl, by decide +kernel, rfl, by decide +kernel, by decide +kernel⟩
theorem sc__law_left : FnScope (Fn.ns .F_law_left) (Fn.ps .F_law_left) (defScope (top 21)) := ⟨rfl, rfl, rfl, by decide +kernel, rfl, by decide +kernel, by decide +kernel⟩
theorem sc__law_items : FnScope (Fn.ns .F_law_items) (Fn.ps .F_law_items) (defScope (top 22)) := ⟨rfl, rfl, rfl, by decide +kernel, rfl, by decide +kernel, by decide +kernel⟩
theorem sc__law_numbered : FnScope (Fn.ns .F_law_numbered) (Fn.ps .F_law_numbered) (defScope (top 23)) := ⟨rfl, rfl, rfl, by decide +kernel, rfl, by decide +kernel, by decide +kernel⟩
theorem sc__law_takes : FnScope (Fn.ns .F_law_takes) (Fn.ps .F_law_takes) (defScope (top 24)) := ⟨rfl, rfl, rfl, by decide +kernel, rfl, by decide +kernel, by decide +kernel⟩
theorem sc__law_goes : FnScope (Fn.ns .F_law_goes) (Fn.ps .F_law_goes) (defScope (top 25)) := ⟨rfl, rfl, rfl, by decide +kernel, rfl, by decide +kernel, by decide +kernel⟩
theorem sc__law_deep : FnScope (Fn.ns .F_law_deep) (Fn.ps .F_law_deep) (defScope (top 26)) := ⟨rfl, rfl, rfl, by decide +kernel, rfl, by decide +kernel, by decide +kernel⟩
theorem sc__law_due : FnScope (Fn.ns .F_law_due) (Fn.ps .F_law_due) (defScope (top 27)) := ⟨rfl, rfl, rfl, by decide +kernel, rfl, by decide +kernel, by decide +kernel⟩
theorem sc_law : FnScope (Fn.ns .Flaw) (Fn.ps .Flaw) (defScope (top 28)) := ⟨rfl, rfl, rfl, by decide +kernel, rfl, by decide +kernel, by decide +kernel⟩
def b_is_pattern_within (L : Nat) (g : Fn → List D → M D) : Es → M (Es × Fl) := seqS (ifD (orT (tstD (opD eqO (varD 2) (cD (.int 0)))) (orT (notT (tstD (callD (on2 isi1) (consA (varD 0) (consA (cD (.ty .tuple)) (nilA)))))) (orT (tstD (opD eqO (varD 0) (tupD (nilA)))) (notT (tstD (callD (on2 isi1) (consA (opD ixD (varD 0) (cD (.int 0))) (consA (cD (.ty .str)) (nilA))))))))) (retS (cD (.bl false))) (nxS)) (seqS (ifD (orT (tstD (kdNin kn_PARTS (opD ixD (varD 0) (cD (.int 0))))) (tstD (opD neO (callD (on1 lenD) (consA (varD 0) (nilA))) (kdIx kn_PARTS (opD ixD (varD 0) (cD (.int 0))))))) (retS (cD (.bl false))) (nxS)) (seqS (ifD (tstD (opD eqO (opD ixD (varD 0) (cD (.int 0))) (cD (.str "item")))) (retS (andD (callD (on2 isi1) (consA (opD ixD (varD 0) (cD (.int 1))) (consA (cD (.ty .str)) (nilA)))) (opD inO (opD ixD (varD 0) (cD (.int 1))) (varD 1)))) (nxS)) (retS (callD (on1 allD) (consA (lcD L [3] (overS (sliD (varD 0) (.at (cD (.int 1))) (.no))) (nameG 3) (yesT) (callD (g .Fis_pattern_within) (consA (varD 3) (consA (varD 1) (consA (opD (binD .Sub) (varD 2) (cD (.int 1))) (nilA)))))) (nilA))))))
def b_is_pattern (L : Nat) (g : Fn → List D → M D) : Es → M (Es × Fl) := retS (andD (callD (g .Fis_pattern_within) (consA (varD 0) (consA (varD 1) (consA (cD (.int 6)) (nilA))))) (opD leO (callD (on1 lenD) (consA (callD (g .Fplaces_of) (consA (varD 0) (nilA))) (nilA))) (cD (.int 8))))
def b_places_of (L : Nat) (g : Fn → List D → M D) : Es → M (Es × Fl) := seqS (ifD (tstD (opD eqO (opD ixD (varD 0) (cD (.int 0))) (cD (.str "item")))) (retS (tupD (consA (opD ixD (varD 0) (cD (.int 1))) (nilA)))) (nxS)) (seqS (asgS (tupD (nilA)) (nameG 1)) (seqS (forS L (overS (sliD (varD 0) (.at (cD (.int 1))) (.no))) (nameG 2) (augS 1 (callD (g .Fplaces_of) (consA (varD 2) (nilA))) iaddD)) (retS (varD 1))))
def b_joined_moves (L : Nat) (g : Fn → List D → M D) : Es → M (Es × Fl) := seqS (asgS (varD 0) (tupG 4 (consG (nameG 3) (consG (nameG 4) (consG (nameG 5) (consG (nameG 6) (nilG))))))) (seqS (asgS (varD 1) (tupG 4 (consG (nameG 7) (consG (nameG 8) (consG (nameG 9) (consG (nameG 10) (nilG))))))) (seqS (asgS (star2D (varD 4) (varD 8)) (nameG 11)) (seqS (ifD (notT (tstD (varD 2))) (retS (tupD (consA (opD (binD .Add) (varD 3) (varD 7)) (consA (varD 11) (consA (opD (binD .Add) (varD 5) (varD 9)) (consA (orD (varD 6) (varD 10)) (nilA))))))) (nxS)) (seqS (forS L (overS (varD 5)) (nameG 12) (asgS (opD (binD .Add) (opD ixD (varD 11) (varD 12)) (varD 7)) (subG (varD 11) (varD 12)))) (retS (tupD (consA (opD (binD .Add) (varD 3) (ifD (tstD (varD 6)) (varD 7) (tupD (nilA)))) (consA (varD 11) (consA (opD (binD .Add) (varD 9) (ifD (tstD (varD 10)) (varD 5) (tupD (nilA)))) (consA (andD (varD 6) (varD 10)) (nilA)))))))))))
def b_moves_from (L : Nat) (g : Fn → List D → M D) : Es → M (Es × Fl) := seqS (ifD (tstD (opD eqO (opD ixD (varD 0) (cD (.int 0))) (cD (.str "none")))) (retS (tupD (consA (tupD (nilA)) (consA (emptyD) (consA (tupD (nilA)) (consA (cD (.bl true)) (nilA))))))) (nxS)) (seqS (ifD (tstD (opD eqO (opD ixD (varD 0) (cD (.int 0))) (cD (.str "item")))) (retS (tupD (consA (tupD (consA (varD 1) (nilA))) (consA (dispD ((varD 1, tupD (nilA)) :: [])) (consA (tupD (consA (varD 1) (nilA))) (consA (cD (.bl false)) (nilA))))))) (nxS)) (seqS (asgS (callD (g .Fmoves_from) (consA (opD ixD (varD 0) (cD (.int 1))) (consA (varD 1) (nilA)))) (nameG 2)) (seqS (ifD (tstD (opD eqO (opD ixD (varD 0) (cD (.int 0))) (cD (.str "many")))) (seqS (asgS (callD (on1 dictD) (consA (opD ixD (varD 2) (cD (.int 1))) (nilA))) (nameG 3)) (seqS (forS L (overS (opD ixD (varD 2) (cD (.int 2)))) (nameG 4) (asgS (opD (binD .Add) (opD ixD (varD 3) (varD 4)) (opD ixD (varD 2) (cD (.int 0)))) (subG (varD 3) (varD 4)))) (retS (tupD (consA (opD ixD (varD 2) (cD (.int 0))) (consA (varD 3) (consA (opD ixD (varD 2) (cD (.int 2))) (consA (cD (.bl true)) (nilA))))))))) (nxS)) (seqS (asgS (callD (g .Fmoves_from) (consA (opD ixD (varD 0) (cD (.int 2))) (consA (opD (binD .Add) (varD 1) (callD (on1 lenD) (consA (callD (g .Fplaces_of) (consA (opD ixD (varD 0) (cD (.int 1))) (nilA))) (nilA)))) (nilA)))) (nameG 5)) (retS (callD (g .Fjoined_moves) (consA (varD 2) (consA (varD 5) (consA (opD eqO (opD ixD (varD 0) (cD (.int 0))) (cD (.str "row"))) (nilA))))))))))
def b_moves_of (L : Nat) (g : Fn → List D → M D) : Es → M (Es × Fl) := seqS (asgS (callD (g .Fmoves_from) (consA (varD 0) (consA (cD (.int 0)) (nilA)))) (tupG 4 (consG (nameG 1) (consG (nameG 2) (consG (nameG 3) (consG (nameG 4) (nilG))))))) (seqS (asgS (callD (on1 tupleD) (consA (lcD L [6] (rng1S (callD (on1 lenD) (consA (callD (g .Fplaces_of) (consA (varD 0) (nilA))) (nilA)))) (nameG 6) (yesT) (callD (on1 tupleD) (consA (ssetD (opD ixD (varD 2) (varD 6))) (nilA)))) (nilA))) (nameG 5)) (retS (tupD (consA (callD (on1 tupleD) (consA (ssetD (varD 1)) (nilA))) (consA (varD 5) (consA (callD (on1 tupleD) (consA (ssetD (varD 3)) (nilA))) (consA (varD 4) (nilA))))))))
def b__law_begun (L : Nat) (g : Fn → List D → M D) : Es → M (Es × Fl) := seqS (asgS (lcD L [2] (overS (varD 0)) (nameG 2) (tstD (opD geO (callD (on1 absD) (consA (varD 2) (nilA))) (opD (binD .Pow) (cD (.int 10)) (cD (.int 18))))) (opD (binD .Sub) (callD (on1 absD) (consA (varD 2) (nilA))) (opD (binD .Pow) (cD (.int 10)) (cD (.int 18))))) (nameG 1)) (retS (dispD ((cD (.str "great"), varD 1) :: (cD (.str "cells"), lcD L [2] (overS (varD 0)) (nameG 2) (yesT) (callD (on1 absD) (consA (varD 2) (nilA)))) :: (cD (.str "rest"), cD (.int 0)) :: (cD (.str "turn"), cD (.int 0)) :: [])))
def b__law_mixed (L : Nat) (g : Fn → List D → M D) : Es → M (Es × Fl) := seqS (parS 1 2 (consA (opD (binD .Add) (opD ixD (varD 0) (cD (.str "turn"))) (cD (.int 1))) (consA (cD (.int 0)) (nilA)))) (seqS (asgS (varD 1) (subG (varD 0) (cD (.str "turn")))) (seqS (forS L (overS (lstD (consA (cD (.int 2147483629)) (consA (cD (.int 2147483587)) (consA (cD (.int 2147483579)) (consA (cD (.int 2147483563)) (nilA))))))) (nameG 3) (seqS (asgS (opD (binD .Add) (opD (binD .Mult) (cD (.int 69621)) (varD 1)) (opD (binD .FloorDiv) (varD 3) (cD (.int 41)))) (nameG 4)) (seqS (forS L (overS (opD ixD (varD 0) (cD (.str "cells")))) (nameG 5) (asgS (opD (binD .Mod) (callD (on1 intD) (consA (opD (binD .Add) (opD (binD .Add) (opD (binD .Mult) (varD 4) (cD (.int 48271))) (varD 5)) (varD 1)) (nilA))) (varD 3)) (nameG 4))) (asgS (opD (binD .Add) (opD (binD .Mult) (varD 2) (cD (.int 2147483659))) (opD (binD .Mod) (callD (on1 intD) (consA (opD (binD .Pow) (varD 4) (cD (.int 5))) (nilA))) (varD 3))) (nameG 2))))) (retS (varD 2))))
def b__law_draw (L : Nat) (g : Fn → List D → M D) : Es → M (Es × Fl) := seqS (ifD (tstD (opD eqO (opD ixD (varD 0) (cD (.str "rest"))) (cD (.int 0)))) (asgS (ifD (tstD (opD neO (opD ixD (varD 0) (cD (.str "great"))) (lstD (nilA)))) (lmD popD (opD ixD (varD 0) (cD (.str "great"))) (consA (cD (.int 0)) (nilA))) (callD (g .F_law_mixed) (consA (varD 0) (nilA)))) (subG (varD 0) (cD (.str "rest")))) (nxS)) (seqS (asgS (opD (binD .Mod) (callD (on1 intD) (consA (opD ixD (varD 0) (cD (.str "rest"))) (nilA))) (varD 1)) (nameG 2)) (seqS (asgS (opD (binD .FloorDiv) (opD ixD (varD 0) (cD (.str "rest"))) (varD 1)) (subG (varD 0) (cD (.str "rest")))) (retS (varD 2))))
def b__law_pick (L : Nat) (g : Fn → List D → M D) : Es → M (Es × Fl) := retS (opD ixD (varD 1) (callD (g .F_law_draw) (consA (varD 0) (consA (callD (on1 lenD) (consA (varD 1) (nilA))) (nilA)))))
def b__law_plain (L : Nat) (g : Fn → List D → M D) : Es → M (Es × Fl) := seqS (ifD (tstD (callD (on2 isi1) (consA (varD 0) (consA (tupD (consA (cD (.ty .list)) (consA (cD (.ty .tuple)) (nilA)))) (nilA))))) (retS (opD eqO (lcD L [1] (overS (varD 0)) (nameG 1) (notT (tstD (callD (g .F_law_plain) (consA (varD 1) (nilA))))) (cD (.int 1))) (lstD (nilA)))) (nxS)) (seqS (ifD (tstD (callD (on2 isi1) (consA (varD 0) (consA (cD (.ty .dict)) (nilA))))) (retS (failD)) (nxS)) (retS (orD (opD isO (varD 0) (cD .non)) (callD (on2 isi1) (consA (varD 0) (consA (tupD (consA (cD (.ty .int)) (consA (cD (.ty .str)) (nilA)))) (nilA)))))))
def b__law_is (L : Nat) (g : Fn → List D → M D) : Es → M (Es × Fl) := retS (andD (callD (g .F_law_plain) (consA (varD 0) (nilA))) (andD (opD eqO (varD 0) (varD 1)) (andD (opD eqO (varD 1) (varD 0)) (opD eqO (callD (on1 reprD) (consA (varD 0) (nilA))) (callD (on1 reprD) (consA (varD 1) (nilA)))))))
def b__law_some_pattern (L : Nat) (g : Fn → List D → M D) : Es → M (Es × Fl) := seqS (asgS (ifD (tstD (opD gtO (varD 2) (cD (.int 1)))) (callD (g .F_law_draw) (consA (varD 0) (consA (cD (.int 7)) (nilA)))) (callD (g .F_law_draw) (consA (varD 0) (consA (cD (.int 2)) (nilA))))) (nameG 3)) (seqS (ifD (tstD (opD eqO (varD 3) (cD (.int 0)))) (retS (tupD (consA (cD (.str "none")) (nilA)))) (nxS)) (seqS (ifD (tstD (opD ltO (varD 3) (cD (.int 3)))) (retS (tupD (consA (cD (.str "item")) (consA (callD (g .F_law_pick) (consA (varD 0) (consA (varD 1) (nilA)))) (nilA))))) (nxS)) (seqS (ifD (tstD (opD eqO (varD 3) (cD (.int 3)))) (retS (tupD (consA (cD (.str "many")) (consA (callD (g .F_law_some_pattern) (consA (varD 0) (consA (varD 1) (consA (opD (binD .Sub) (varD 2) (cD (.int 1))) (nilA))))) (nilA))))) (nxS)) (retS (tupD (consA (callD (g .F_law_pick) (consA (varD 0) (consA (lstD (consA (cD (.str "row")) (consA (cD (.str "row")) (consA (cD (.str "either")) (nilA))))) (nilA)))) (consA (callD (g .F_law_some_pattern) (consA (varD 0) (consA (varD 1) (consA (opD (binD .Sub) (varD 2) (cD (.int 1))) (nilA))))) (consA (callD (g .F_law_some_pattern) (consA (varD 0) (consA (varD 1) (consA (opD (binD .Sub) (varD 2) (cD (.int 1))) (nilA))))) (nilA)))))))))
def b__law_hollow (L : Nat) (g : Fn → List D → M D) : Es → M (Es × Fl) := seqS (ifD (tstD (opD inO (opD ixD (varD 0) (cD (.int 0))) (tupD (consA (cD (.str "none")) (consA (cD (.str "many")) (nilA)))))) (retS (cD (.bl true))) (nxS)) (seqS (ifD (tstD (opD eqO (opD ixD (varD 0) (cD (.int 0))) (cD (.str "item")))) (retS (cD (.bl false))) (nxS)) (seqS (parS 1 2 (consA (callD (g .F_law_hollow) (consA (opD ixD (varD 0) (cD (.int 1))) (nilA))) (consA (callD (g .F_law_hollow) (consA (opD ixD (varD 0) (cD (.int 2))) (nilA))) (nilA)))) (retS (ifD (tstD (opD eqO (opD ixD (varD 0) (cD (.int 0))) (cD (.str "row")))) (andD (varD 1) (varD 2)) (orD (varD 1) (varD 2))))))
def b__law_rest (L : Nat) (g : Fn → List D → M D) : Es → M (Es × Fl) := retS (ifD (tstD (opD eqO (varD 0) (tupD (consA (cD (.str "none")) (nilA))))) (varD 1) (tupD (consA (cD (.str "row")) (consA (varD 0) (consA (varD 1) (nilA))))))
def b__law_behind_item (L : Nat) (g : Fn → List D → M D) : Es → M (Es × Fl) := seqS (ifD (tstD (opD eqO (opD ixD (varD 0) (cD (.int 0))) (cD (.str "none")))) (retS (lstD (nilA))) (nxS)) (seqS (ifD (tstD (opD eqO (opD ixD (varD 0) (cD (.int 0))) (cD (.str "item")))) (retS (ifD (tstD (opD inO (opD ixD (varD 0) (cD (.int 1))) (varD 1))) (lstD (consA (tupD (consA (cD (.str "none")) (nilA))) (nilA))) (lstD (nilA)))) (nxS)) (seqS (ifD (tstD (opD eqO (opD ixD (varD 0) (cD (.int 0))) (cD (.str "many")))) (asgS (lcD L [4] (overS (callD (g .F_law_behind_item) (consA (opD ixD (varD 0) (cD (.int 1))) (consA (varD 1) (nilA))))) (nameG 4) (yesT) (callD (g .F_law_rest) (consA (varD 4) (consA (varD 0) (nilA))))) (nameG 2)) (ifD (tstD (opD eqO (opD ixD (varD 0) (cD (.int 0))) (cD (.str "either")))) (asgS (opD (binD .Add) (callD (g .F_law_behind_item) (consA (opD ixD (varD 0) (cD (.int 1))) (consA (varD 1) (nilA)))) (callD (g .F_law_behind_item) (consA (opD ixD (varD 0) (cD (.int 2))) (consA (varD 1) (nilA))))) (nameG 2)) (seqS (asgS (lcD L [4] (overS (callD (g .F_law_behind_item) (consA (opD ixD (varD 0) (cD (.int 1))) (consA (varD 1) (nilA))))) (nameG 4) (yesT) (callD (g .F_law_rest) (consA (varD 4) (consA (opD ixD (varD 0) (cD (.int 2))) (nilA))))) (nameG 2)) (asgS (opD (binD .Add) (varD 2) (ifD (tstD (callD (g .F_law_hollow) (consA (opD ixD (varD 0) (cD (.int 1))) (nilA)))) (callD (g .F_law_behind_item) (consA (opD ixD (varD 0) (cD (.int 2))) (consA (varD 1) (nilA)))) (lstD (nilA)))) (nameG 2))))) (retS (lcD L [3] (rng1S (callD (on1 lenD) (consA (varD 2) (nilA)))) (nameG 3) (tstD (opD ninO (opD ixD (varD 2) (varD 3)) (sliD (varD 2) (.no) (.at (varD 3))))) (opD ixD (varD 2) (varD 3))))))
def b__law_left (L : Nat) (g : Fn → List D → M D) : Es → M (Es × Fl) := seqS (asgS (lstD (nilA)) (nameG 2)) (seqS (forS L (overS (varD 0)) (nameG 3) (asgS (opD (binD .Add) (varD 2) (lcD L [4] (overS (callD (g .F_law_behind_item) (consA (varD 3) (consA (varD 1) (nilA))))) (nameG 4) (tstD (opD ninO (varD 4) (varD 2))) (varD 4))) (nameG 2))) (retS (sortR (varD 2))))
def b__law_items (L : Nat) (g : Fn → List D → M D) : Es → M (Es × Fl) := seqS (ifD (tstD (opD eqO (opD ixD (varD 0) (cD (.int 0))) (cD (.str "item")))) (retS (lstD (consA (opD ixD (varD 0) (cD (.int 1))) (nilA)))) (nxS)) (seqS (asgS (lstD (nilA)) (nameG 1)) (seqS (forS L (overS (sliD (varD 0) (.at (cD (.int 1))) (.no))) (nameG 2) (asgS (opD (binD .Add) (varD 1) (callD (g .F_law_items) (consA (varD 2) (nilA)))) (nameG 1))) (retS (varD 1))))
def b__law_numbered (L : Nat) (g : Fn → List D → M D) : Es → M (Es × Fl) := seqS (ifD (tstD (opD eqO (opD ixD (varD 0) (cD (.int 0))) (cD (.str "item")))) (retS (tupD (consA (cD (.str "item")) (consA (callD (on1 strD) (consA (varD 1) (nilA))) (nilA))))) (nxS)) (seqS (asgS (lstD (consA (opD ixD (varD 0) (cD (.int 0))) (nilA))) (nameG 2)) (seqS (forS L (overS (sliD (varD 0) (.at (cD (.int 1))) (.no))) (nameG 3) (seqS (dropS (lmD appendD (varD 2) (consA (callD (g .F_law_numbered) (consA (varD 3) (consA (varD 1) (nilA)))) (nilA)))) (asgS (opD (binD .Add) (varD 1) (callD (on1 lenD) (consA (callD (g .F_law_items) (consA (varD 3) (nilA))) (nilA)))) (nameG 1)))) (retS (callD (on1 tupleD) (consA (varD 2) (nilA))))))
def b__law_takes (L : Nat) (g : Fn → List D → M D) : Es → M (Es × Fl) := seqS (asgS (lstD (consA (varD 0) (nilA))) (nameG 2)) (seqS (forS L (overS (varD 1)) (nameG 3) (asgS (callD (g .F_law_left) (consA (varD 2) (consA (tupD (consA (varD 3) (nilA))) (nilA)))) (nameG 2))) (retS (opD inO (cD (.bl true)) (lcD L [4] (overS (varD 2)) (nameG 4) (yesT) (callD (g .F_law_hollow) (consA (varD 4) (nilA)))))))
def b__law_goes (L : Nat) (g : Fn → List D → M D) : Es → M (Es × Fl) := seqS (asgS (varD 0) (tupG 4 (consG (nameG 2) (consG (nameG 3) (consG (nameG 4) (consG (nameG 5) (nilG))))))) (seqS (ifD (tstD (opD eqO (varD 1) (tupD (nilA)))) (retS (varD 5)) (nxS)) (seqS (asgS (lcD L [7, 8] (zipS (varD 1) (sliD (varD 1) (.at (cD (.int 1))) (.no))) (tupG 2 (consG (nameG 7) (consG (nameG 8) (nilG)))) (tstD (opD ninO (varD 8) (opD ixD (varD 3) (varD 7)))) (varD 7)) (nameG 6)) (retS (andD (opD inO (opD ixD (varD 1) (cD (.int 0))) (varD 2)) (andD (opD eqO (varD 6) (lstD (nilA))) (opD inO (opD ixD (varD 1) (unD negD (cD (.int 1)))) (varD 4)))))))
def b__law_deep (L : Nat) (g : Fn → List D → M D) : Es → M (Es × Fl) := retS (ifD (tstD (opD inO (opD ixD (varD 0) (cD (.int 0))) (tupD (consA (cD (.str "none")) (consA (cD (.str "item")) (nilA)))))) (cD (.int 1)) (opD (binD .Add) (cD (.int 1)) (callD (on1 maxD) (consA (lcD L [1] (overS (sliD (varD 0) (.at (cD (.int 1))) (.no))) (nameG 1) (yesT) (callD (g .F_law_deep) (consA (varD 1) (nilA)))) (nilA)))))
def b__law_due (L : Nat) (g : Fn → List D → M D) : Es → M (Es × Fl) := seqS (ifD (orT (notT (tstD (callD (on2 isi1) (consA (varD 0) (consA (cD (.ty .tuple)) (nilA)))))) (orT (tstD (opD eqO (varD 0) (tupD (nilA)))) (tstD (opD ninO (opD ixD (varD 0) (cD (.int 0))) (tupD (consA (cD (.str "none")) (consA (cD (.str "item")) (consA (cD (.str "row")) (consA (cD (.str "either")) (consA (cD (.str "many")) (nilA))))))))))) (retS (cD (.bl false))) (nxS)) (seqS (ifD (tstD (opD neO (callD (on1 lenD) (consA (varD 0) (nilA))) (opD ixD (dispD ((cD (.str "none"), cD (.int 1)) :: (cD (.str "item"), cD (.int 2)) :: (cD (.str "row"), cD (.int 3)) :: (cD (.str "either"), cD (.int 3)) :: (cD (.str "many"), cD (.int 2)) :: [])) (opD ixD (varD 0) (cD (.int 0)))))) (retS (cD (.bl false))) (nxS)) (seqS (ifD (tstD (opD eqO (opD ixD (varD 0) (cD (.int 0))) (cD (.str "item")))) (retS (opD inO (opD ixD (varD 0) (cD (.int 1))) (lstD (consA (cD (.str "a")) (consA (cD (.str "b")) (nilA)))))) (nxS)) (retS (opD eqO (lcD L [1] (overS (sliD (varD 0) (.at (cD (.int 1))) (.no))) (nameG 1) (notT (tstD (callD (g .F_law_due) (consA (varD 1) (nilA))))) (varD 1)) (lstD (nilA))))))
def b_law (L : Nat) (g : Fn → List D → M D) : Es → M (Es × Fl) := seqS (asgS (callD (g .F_law_begun) (consA (varD 0) (nilA))) (nameG 1)) (seqS (ifD (notT (tstD (callD (g .F_law_is) (consA (callD (g .Fmoves_of) (consA (tupD (consA (cD (.str "row")) (consA (tupD (consA (cD (.str "many")) (consA (tupD (consA (cD (.str "item")) (consA (cD (.str "a")) (nilA)))) (nilA)))) (consA (tupD (consA (cD (.str "either")) (consA (tupD (consA (cD (.str "item")) (consA (cD (.str "b")) (nilA)))) (consA (tupD (consA (cD (.str "none")) (nilA))) (nilA))))) (nilA))))) (nilA))) (consA (tupD (consA (tupD (consA (cD (.int 0)) (consA (cD (.int 1)) (nilA)))) (consA (tupD (consA (tupD (consA (cD (.int 0)) (consA (cD (.int 1)) (nilA)))) (consA (tupD (nilA)) (nilA)))) (consA (tupD (consA (cD (.int 0)) (consA (cD (.int 1)) (nilA)))) (consA (cD (.bl true)) (nilA)))))) (nilA)))))) (retS (cD (.bl false))) (nxS)) (seqS (forS L (rng1S (cD (.int 5))) (nameG 2) (seqS (asgS (callD (g .F_law_some_pattern) (consA (varD 1) (consA (lstD (consA (cD (.str "a")) (consA (cD (.str "b")) (nilA)))) (consA (callD (g .F_law_pick) (consA (varD 1) (consA (lstD (consA (cD (.int 3)) (consA (cD (.int 4)) (consA (cD (.int 6)) (nilA))))) (nilA)))) (nilA))))) (nameG 3)) (seqS (asgS (callD (g .F_law_items) (consA (varD 3) (nilA))) (nameG 4)) (seqS (asgS (andD (opD leO (callD (g .F_law_deep) (consA (varD 3) (nilA))) (cD (.int 6))) (opD leO (callD (on1 lenD) (consA (varD 4) (nilA))) (cD (.int 8)))) (nameG 5)) (seqS (ifD (orT (notT (tstD (callD (g .F_law_is) (consA (callD (g .Fis_pattern) (consA (varD 3) (consA (lstD (consA (cD (.str "a")) (consA (cD (.str "b")) (nilA)))) (nilA)))) (consA (varD 5) (nilA)))))) (tstD (opD neO (callKD (g .Fis_pattern) swapO (consA (lstD (consA (cD (.str "a")) (nilA))) (consA (varD 3) (nilA)))) (andD (varD 5) (opD ninO (cD (.str "b")) (varD 4)))))) (retS (cD (.bl false))) (nxS)) (seqS (ifD (notT (tstD (varD 5))) (ctS) (nxS)) (seqS (asgS (tupD (consA (callD (g .Fmoves_of) (consA (varD 3) (nilA))) (consA (callD (on1 lenD) (consA (varD 4) (nilA))) (nilA)))) (tupG 2 (consG (nameG 6) (consG (nameG 7) (nilG))))) (seqS (ifD (orT (notT (tstD (callD (g .F_law_is) (consA (callD (g .Fplaces_of) (consA (varD 3) (nilA))) (consA (callD (on1 tupleD) (consA (varD 4) (nilA))) (nilA)))))) (orT (tstD (opD neO (callKD (g .Fmoves_of) sameO (consA (varD 3) (nilA))) (varD 6))) (notT (tstD (callD (g .F_law_plain) (consA (varD 6) (nilA))))))) (retS (cD (.bl false))) (nxS)) (seqS (ifD (orT (tstD (opD neO (lcD L [18] (overS (opD (binD .Add) (lstD (consA (opD ixD (varD 6) (cD (.int 0))) (consA (opD ixD (varD 6) (cD (.int 2))) (nilA)))) (callD (on1 listD) (consA (opD ixD (varD 6) (cD (.int 1))) (nilA))))) (nameG 18) (tstD (opD neO (callD (on1 listD) (consA (varD 18) (nilA))) (ssetD (varD 18)))) (varD 18)) (lstD (nilA)))) (tstD (opD neO (callD (on1 lenD) (consA (opD ixD (varD 6) (cD (.int 1))) (nilA))) (varD 7)))) (retS (cD (.bl false))) (nxS)) (seqS (parS 8 9 (consA (callD (g .F_law_numbered) (consA (varD 3) (consA (cD (.int 0)) (nilA)))) (consA (lstD (consA (tupD (nilA)) (nilA))) (nilA)))) (seqS (forS L (rng1S (cD (.int 3))) (nameG 10) (seqS (asgS (lstD (nilA)) (nameG 11)) (seqS (forS L (overS (sliD (varD 9) (.at (unD negD (cD (.int 60)))) (.no))) (nameG 12) (asgS (opD (binD .Add) (varD 11) (lcD L [19] (rng1S (callD (on2 minD) (consA (varD 7) (consA (cD (.int 5)) (nilA))))) (nameG 19) (yesT) (opD (binD .Add) (varD 12) (tupD (consA (varD 19) (nilA)))))) (nameG 11))) (asgS (opD (binD .Add) (varD 9) (varD 11)) (nameG 9))))) (seqS (forS L (rng1S (cD (.int 8))) (nameG 13) (dropS (lmD appendD (varD 9) (consA (ifD (tstD (opD gtO (varD 7) (cD (.int 0)))) (callD (on1 tupleD) (consA (lcD L [20] (rng1S (callD (g .F_law_draw) (consA (varD 1) (consA (cD (.int 6)) (nilA))))) (nameG 20) (yesT) (callD (g .F_law_draw) (consA (varD 1) (consA (varD 7) (nilA))))) (nilA))) (tupD (nilA))) (nilA))))) (seqS (forS L (overS (opD (binD .Add) (sliD (varD 9) (.no) (.at (cD (.int 150)))) (sliD (varD 9) (.at (unD negD (cD (.int 8)))) (.no)))) (nameG 12) (ifD (tstD (opD neO (callD (g .F_law_goes) (consA (varD 6) (consA (varD 12) (nilA)))) (callD (g .F_law_takes) (consA (varD 8) (consA (lcD L [19] (overS (varD 12)) (nameG 19) (yesT) (callD (on1 strD) (consA (varD 19) (nilA)))) (nilA)))))) (retS (cD (.bl false))) (nxS))) (seqS (parS 14 15 (consA (varD 3) (consA (varD 3) (nilA)))) (seqS (forS L (rng1S (opD (binD .Sub) (cD (.int 7)) (callD (g .F_law_deep) (consA (varD 3) (nilA))))) (nameG 13) (asgS (tupD (consA (cD (.str "many")) (consA (varD 14) (nilA)))) (nameG 14))) (seqS (loopS (tstD (opD ltO (callD (on1 lenD) (consA (callD (g .F_law_items) (consA (varD 15) (nilA))) (nilA))) (cD (.int 9)))) (asgS (tupD (consA (cD (.str "row")) (consA (varD 15) (consA (tupD (consA (cD (.str "item")) (consA (cD (.str "a")) (nilA)))) (nilA))))) (nameG 15)) L) (forS L (overS (lstD (consA (varD 14) (consA (varD 15) (consA (callD (on1 listD) (consA (varD 3) (nilA))) (consA (opD (binD .Add) (varD 3) (tupD (consA (cD (.str "none")) (nilA)))) (consA (tupD (nilA)) (consA (cD .non) (consA (tupD (consA (cD (.str "item")) (consA (cD (.str "c")) (nilA)))) (consA (tupD (consA (cD (.str "item")) (consA (cD (.int 5)) (nilA)))) (consA (tupD (consA (cD (.str "some")) (consA (varD 3) (nilA)))) (consA (tupD (consA (cD (.str "row")) (consA (varD 3) (nilA)))) (consA (tupD (consA (cD (.str "many")) (consA (varD 3) (consA (varD 3) (nilA))))) (consA (tupD (consA (cD (.str "item")) (consA (lstD (consA (cD (.str "a")) (nilA))) (nilA)))) (nilA))))))))))))))) (nameG 16) (seqS (asgS (andD (callD (g .F_law_due) (consA (varD 16) (nilA))) (andD (opD leO (callD (g .F_law_deep) (consA (varD 16) (nilA))) (cD (.int 6))) (opD leO (callD (on1 lenD) (consA (callD (g .F_law_items) (consA (varD 16) (nilA))) (nilA))) (cD (.int 8))))) (nameG 17)) (ifD (notT (tstD (callD (g .F_law_is) (consA (callD (g .Fis_pattern) (consA (varD 16) (consA (lstD (consA (cD (.str "a")) (consA (cD (.str "b")) (nilA)))) (nilA)))) (consA (varD 17) (nilA)))))) (retS (cD (.bl false))) (nxS)))))))))))))))))))) (retS (cD (.bl true)))))
structure Txt (K : PySem.W.Frag) (w : World) (mg : Str → Option Value) (ad : Fn → Addr) (fd : Fn → FuncData) : Prop where
  fn : ∀ f, Fun K f.nm f.nm f.st (ad f) (fd f)
  mgf : ∀ f, mg f.nm = some (.ref (ad f))
  bind : ∀ f, Binds K (fd f) f.ps []
  n_abs : mg "abs" = none
  n_all : mg "all" = none
  n_dict : mg "dict" = none
  n_int : mg "int" = none
  n_isinstance : mg "isinstance" = none
  n_len : mg "len" = none
  n_list : mg "list" = none
  n_max : mg "max" = none
  n_min : mg "min" = none
  n_range : mg "range" = none
  n_repr : mg "repr" = none
  n_set : mg "set" = none
  n_sorted : mg "sorted" = none
  n_str : mg "str" = none
  n_tuple : mg "tuple" = none
  n_zip : mg "zip" = none
  c_MOST_ITEMS : ∃ t, mg "MOST_ITEMS" = some (.int 8 t)
  c_MOST_NESTED : ∃ t, mg "MOST_NESTED" = some (.int 6 t)
  kw_is_pattern : KwB K (fd .Fis_pattern) (Fn.ps .Fis_pattern) ["names", "thing"] (fun {α} => swapO (α := α))
  kw_moves_of : KwB K (fd .Fmoves_of) (Fn.ps .Fmoves_of) ["pattern"] (fun {α} => sameO (α := α))
def tab (L : Nat) : Nat → Fn → List D → M D
  | 0, _ => fun _ => fail
  | k + 1, f => match f with
    | .Fis_pattern_within => fnD 3 4 (b_is_pattern_within L (tab L k))
    | .Fis_pattern => fnD 2 2 (b_is_pattern L (tab L k))
    | .Fplaces_of => fnD 1 3 (b_places_of L (tab L k))
    | .Fjoined_moves => fnD 3 13 (b_joined_moves L (tab L k))
    | .Fmoves_from => fnD 2 6 (b_moves_from L (tab L k))
    | .Fmoves_of => fnD 1 7 (b_moves_of L (tab L k))
    | .F_law_begun => fnD 1 3 (b__law_begun L (tab L k))
    | .F_law_mixed => fnD 1 6 (b__law_mixed L (tab L k))
    | .F_law_draw => fnD 2 3 (b__law_draw L (tab L k))
    | .F_law_pick => fnD 2 2 (b__law_pick L (tab L k))
    | .F_law_plain => fnD 1 2 (b__law_plain L (tab L k))
    | .F_law_is => fnD 2 2 (b__law_is L (tab L k))
    | .F_law_some_pattern => fnD 3 4 (b__law_some_pattern L (tab L k))
    | .F_law_hollow => fnD 1 3 (b__law_hollow L (tab L k))
    | .F_law_rest => fnD 2 2 (b__law_rest L (tab L k))
    | .F_law_behind_item => fnD 2 5 (b__law_behind_item L (tab L k))
    | .F_law_left => fnD 2 5 (b__law_left L (tab L k))
    | .F_law_items => fnD 1 3 (b__law_items L (tab L k))
    | .F_law_numbered => fnD 2 4 (b__law_numbered L (tab L k))
    | .F_law_takes => fnD 2 5 (b__law_takes L (tab L k))
    | .F_law_goes => fnD 2 9 (b__law_goes L (tab L k))
    | .F_law_deep => fnD 1 2 (b__law_deep L (tab L k))
    | .F_law_due => fnD 1 2 (b__law_due L (tab L k))
    | .Flaw => fnD 1 21 (b_law L (tab L k))
end K35


namespace K35
open PySem PySem.Spec L2 Mx
structure Kds (K : PySem.W.Frag) (w : World) (mg : Str → Option Value) (d_PARTS : Addr) : Prop where
  kd_PARTS : ∃ es n, KDict K w d_PARTS es n
  kn_PARTS : Kd K d_PARTS kn_PARTS
  mg_PARTS : mg "PARTS" = some (.ref d_PARTS)
  triv : True
section
variable {T : List (Addr × Str)} {P : Program} {w : World} {K : PySem.W.Frag} {mg : Str → Option Value} {base : Heap} {ad : Fn → Addr} {fd : Fn → FuncData} {k L : Nat} {g : Fn → List D → M D} {d_PARTS : Addr}
theorem ok_is_pattern_within (U : Txt K w mg ad fd) (U2 : Kds K w mg d_PARTS) (F : ∀ f, FnM T P w K mg base (k + 2) (ad f) (fd f) f.ps (g f)) (cdv : Value) (A : Around) (out : List Env) (s : Shared) (H : Hp) (rm : Rm (k + 2) (A.deeper (PyProof.Rows.envOfC "is_pattern_within" (defScope (top 4)) s.heap.objs.size (ad .Fis_pattern_within) cdv))) :
    PSs (cxOf CX0 P w K mg base (Fn.ns .Fis_pattern_within) "is_pattern_within" (defScope (top 4)) (ad .Fis_pattern_within) cdv A out s H E0).nox (defBody (top 4)) (sM T K (b_is_pattern_within L g)) :=
  let ⟨_, _, D0_PARTS⟩ := U2.kd_PARTS
  scons (sif (PW.pt (mtor (mtcmp (o_eq rm.u64) (mvar 2) (mint)) (mtor (mtnot (mtst (mcallB (call_isiM) rfl U.n_isinstance bt_isinstance (acons (mvar 0) (acons (mty .tuple rfl U.n_tuple) (anil)))))) (mtor (mtcmp (o_eq rm.u64) (mvar 0) (mtup (anil))) (mtor1 (mtnot (mtst (mcallB (call_isiM) rfl U.n_isinstance bt_isinstance (acons (mix rm.u1 (mvar 0) (mint)) (acons (mty .str rfl U.n_str) (anil))))))))))) (sone (sret (mbl))) (snil)) (scons (sif (PW.pt (mtor (mtkdNin D0_PARTS U2.kn_PARTS rfl U2.mg_PARTS (mix rm.u1 (mvar 0) (mint))) (mtor1 (mtcmp (o_ne rm.u64) (mcallB (call_lenM) rfl U.n_len bt_len (acons (mvar 0) (anil))) (mkdIx D0_PARTS U2.kn_PARTS rfl U2.mg_PARTS (mix rm.u1 (mvar 0) (mint))))))) (sone (sret (mbl))) (snil)) (scons (sif (mtcmp (o_eq rm.u64) (mix rm.u1 (mvar 0) (mint)) (mstr)) (sone (sret (mand (mcallB (call_isiM) rfl U.n_isinstance bt_isinstance (acons (mix rm.u1 (mvar 0) (mint)) (acons (mty .str rfl U.n_str) (anil)))) (mone (mcmp (o_in rm.u65) (mix rm.u1 (mvar 0) (mint)) (mvar 1)))))) (snil)) (sone (sret (mcallB (call_allM rfl) rfl U.n_all bt_all (acons (mlc L [("one", 3)] rfl sc_is_pattern_within.nd (iover (mslice (mvar 0) (posome (mint)) (ponone))) rfl (fun _ _ _ _ _ => wname 3 sc_is_pattern_within.nd) (fun _ _ _ _ _ => ptsnil) (fun _ _ _ _ _ => fcall (F .Fis_pattern_within) rm rfl (U.mgf .Fis_pattern_within) (U.fn .Fis_pattern_within).kp (U.bind .Fis_pattern_within) (acons (mvar 3) (acons (mvar 1) (acons (mbin .Sub (mvar 2) (mint)) (anil)))))) (anil)))))))
theorem ok_is_pattern (U : Txt K w mg ad fd) (U2 : Kds K w mg d_PARTS) (F : ∀ f, FnM T P w K mg base (k + 2) (ad f) (fd f) f.ps (g f)) (cdv : Value) (A : Around) (out : List Env) (s : Shared) (H : Hp) (rm : Rm (k + 2) (A.deeper (PyProof.Rows.envOfC "is_pattern" (defScope (top 5)) s.heap.objs.size (ad .Fis_pattern) cdv))) :
    PSs (cxOf CX0 P w K mg base (Fn.ns .Fis_pattern) "is_pattern" (defScope (top 5)) (ad .Fis_pattern) cdv A out s H E0).nox (defBody (top 5)) (sM T K (b_is_pattern L g)) :=
  sone (sret (mand (fcall (F .Fis_pattern_within) rm rfl (U.mgf .Fis_pattern_within) (U.fn .Fis_pattern_within).kp (U.bind .Fis_pattern_within) (acons (mvar 0) (acons (mvar 1) (acons (mgi rfl U.c_MOST_NESTED) (anil))))) (mone (mcmp (o_le) (mcallB (call_lenM) rfl U.n_len bt_len (acons (fcall (F .Fplaces_of) rm rfl (U.mgf .Fplaces_of) (U.fn .Fplaces_of).kp (U.bind .Fplaces_of) (acons (mvar 0) (anil))) (anil))) (mgi rfl U.c_MOST_ITEMS)))))
theorem ok_places_of (U : Txt K w mg ad fd) (U2 : Kds K w mg d_PARTS) (F : ∀ f, FnM T P w K mg base (k + 2) (ad f) (fd f) f.ps (g f)) (cdv : Value) (A : Around) (out : List Env) (s : Shared) (H : Hp) (rm : Rm (k + 2) (A.deeper (PyProof.Rows.envOfC "places_of" (defScope (top 6)) s.heap.objs.size (ad .Fplaces_of) cdv))) :
    PSs (cxOf CX0 P w K mg base (Fn.ns .Fplaces_of) "places_of" (defScope (top 6)) (ad .Fplaces_of) cdv A out s H E0).nox (defBody (top 6)) (sM T K (b_places_of L g)) :=
  scons (sif (mtcmp (o_eq rm.u64) (mix rm.u1 (mvar 0) (mint)) (mstr)) (sone (sret (mtup (acons (mix rm.u1 (mvar 0) (mint)) (anil))))) (snil)) (scons (sset 1 sc_places_of.nd (mtup (anil))) (scons (sfor L PassesOwn.never rfl (iover (mslice (mvar 0) (posome (mint)) (ponone))) (gname 2 sc_places_of.nd) (sone (saug 1 iop_addM sc_places_of.nd (fcall (F .Fplaces_of) rm rfl (U.mgf .Fplaces_of) (U.fn .Fplaces_of).kp (U.bind .Fplaces_of) (acons (mvar 2) (anil)))))) (sone (sret (mvar 1)))))
theorem ok_joined_moves (U : Txt K w mg ad fd) (U2 : Kds K w mg d_PARTS) (F : ∀ f, FnM T P w K mg base (k + 2) (ad f) (fd f) f.ps (g f)) (cdv : Value) (A : Around) (out : List Env) (s : Shared) (H : Hp) (rm : Rm (k + 2) (A.deeper (PyProof.Rows.envOfC "joined_moves" (defScope (top 7)) s.heap.objs.size (ad .Fjoined_moves) cdv))) :
    PSs (cxOf CX0 P w K mg base (Fn.ns .Fjoined_moves) "joined_moves" (defScope (top 7)) (ad .Fjoined_moves) cdv A out s H E0).nox (defBody (top 7)) (sM T K (b_joined_moves L g)) :=
  scons (sasg (mvar 0) (gtup rfl (gcons (gname 3 sc_joined_moves.nd) (gcons (gname 4 sc_joined_moves.nd) (gcons (gname 5 sc_joined_moves.nd) (gcons (gname 6 sc_joined_moves.nd) (gnil))))))) (scons (sasg (mvar 1) (gtup rfl (gcons (gname 7 sc_joined_moves.nd) (gcons (gname 8 sc_joined_moves.nd) (gcons (gname 9 sc_joined_moves.nd) (gcons (gname 10 sc_joined_moves.nd) (gnil))))))) (scons (sset 11 sc_joined_moves.nd (mstar2 rfl (mvar 4) (mvar 8))) (scons (sif (mtnot (mtst (mvar 2))) (sone (sret (mtup (acons (mbin .Add (mvar 3) (mvar 7)) (acons (mvar 11) (acons (mbin .Add (mvar 5) (mvar 9)) (acons (mor (mvar 6) (mone (mvar 10))) (anil)))))))) (snil)) (scons (sfor L PassesOwn.never rfl (iover (mvar 5)) (gname 12 sc_joined_moves.nd) (sone (sasg (mbin .Add (mix rm.u1 (mvar 11) (mvar 12)) (mvar 7)) (gsub rm.u1 (mvar 11) (mvar 12))))) (sone (sret (mtup (acons (mbin .Add (mvar 3) (mif (mtst (mvar 6)) (mvar 7) (mtup (anil)))) (acons (mvar 11) (acons (mbin .Add (mvar 9) (mif (mtst (mvar 10)) (mvar 5) (mtup (anil)))) (acons (mand (mvar 6) (mone (mvar 10))) (anil))))))))))))
theorem ok_moves_from (U : Txt K w mg ad fd) (U2 : Kds K w mg d_PARTS) (F : ∀ f, FnM T P w K mg base (k + 2) (ad f) (fd f) f.ps (g f)) (cdv : Value) (A : Around) (out : List Env) (s : Shared) (H : Hp) (rm : Rm (k + 2) (A.deeper (PyProof.Rows.envOfC "moves_from" (defScope (top 8)) s.heap.objs.size (ad .Fmoves_from) cdv))) :
    PSs (cxOf CX0 P w K mg base (Fn.ns .Fmoves_from) "moves_from" (defScope (top 8)) (ad .Fmoves_from) cdv A out s H E0).nox (defBody (top 8)) (sM T K (b_moves_from L g)) :=
  scons (sif (mtcmp (o_eq rm.u64) (mix rm.u1 (mvar 0) (mint)) (mstr)) (sone (sret (mtup (acons (mtup (anil)) (acons (mdictK) (acons (mtup (anil)) (acons (mbl) (anil)))))))) (snil)) (scons (sif (mtcmp (o_eq rm.u64) (mix rm.u1 (mvar 0) (mint)) (mstr)) (sone (sret (mtup (acons (mtup (acons (mvar 1) (anil))) (acons (mdisp (prs := (varD 1, tupD (nilA)) :: []) (dcons (mvar 1) (mtup (anil)) (dnil))) (acons (mtup (acons (mvar 1) (anil))) (acons (mbl) (anil)))))))) (snil)) (scons (sset 2 sc_moves_from.nd (fcall (F .Fmoves_from) rm rfl (U.mgf .Fmoves_from) (U.fn .Fmoves_from).kp (U.bind .Fmoves_from) (acons (mix rm.u1 (mvar 0) (mint)) (acons (mvar 1) (anil))))) (scons (sif (mtcmp (o_eq rm.u64) (mix rm.u1 (mvar 0) (mint)) (mstr)) (scons (sset 3 sc_moves_from.nd (mcallT call_dictM rfl U.n_dict bt_dict (acons (mix rm.u1 (mvar 2) (mint)) (anil)))) (scons (sfor L PassesOwn.never rfl (iover (mix rm.u1 (mvar 2) (mint))) (gname 4 sc_moves_from.nd) (sone (sasg (mbin .Add (mix rm.u1 (mvar 3) (mvar 4)) (mix rm.u1 (mvar 2) (mint))) (gsub rm.u1 (mvar 3) (mvar 4))))) (sone (sret (mtup (acons (mix rm.u1 (mvar 2) (mint)) (acons (mvar 3) (acons (mix rm.u1 (mvar 2) (mint)) (acons (mbl) (anil)))))))))) (snil)) (scons (sset 5 sc_moves_from.nd (fcall (F .Fmoves_from) rm rfl (U.mgf .Fmoves_from) (U.fn .Fmoves_from).kp (U.bind .Fmoves_from) (acons (mix rm.u1 (mvar 0) (mint)) (acons (mbin .Add (mvar 1) (mcallB (call_lenM) rfl U.n_len bt_len (acons (fcall (F .Fplaces_of) rm rfl (U.mgf .Fplaces_of) (U.fn .Fplaces_of).kp (U.bind .Fplaces_of) (acons (mix rm.u1 (mvar 0) (mint)) (anil))) (anil)))) (anil))))) (sone (sret (fcall (F .Fjoined_moves) rm rfl (U.mgf .Fjoined_moves) (U.fn .Fjoined_moves).kp (U.bind .Fjoined_moves) (acons (mvar 2) (acons (mvar 5) (acons (mcmp (o_eq rm.u64) (mix rm.u1 (mvar 0) (mint)) (mstr)) (anil)))))))))))
theorem ok_moves_of (U : Txt K w mg ad fd) (U2 : Kds K w mg d_PARTS) (F : ∀ f, FnM T P w K mg base (k + 2) (ad f) (fd f) f.ps (g f)) (cdv : Value) (A : Around) (out : List Env) (s : Shared) (H : Hp) (rm : Rm (k + 2) (A.deeper (PyProof.Rows.envOfC "moves_of" (defScope (top 9)) s.heap.objs.size (ad .Fmoves_of) cdv))) :
    PSs (cxOf CX0 P w K mg base (Fn.ns .Fmoves_of) "moves_of" (defScope (top 9)) (ad .Fmoves_of) cdv A out s H E0).nox (defBody (top 9)) (sM T K (b_moves_of L g)) :=
  scons (sasg (fcall (F .Fmoves_from) rm rfl (U.mgf .Fmoves_from) (U.fn .Fmoves_from).kp (U.bind .Fmoves_from) (acons (mvar 0) (acons (mint) (anil)))) (gtup rfl (gcons (gname 1 sc_moves_of.nd) (gcons (gname 2 sc_moves_of.nd) (gcons (gname 3 sc_moves_of.nd) (gcons (gname 4 sc_moves_of.nd) (gnil))))))) (scons (sset 5 sc_moves_of.nd (mcallT call_tupleM rfl U.n_tuple bt_tuple (acons (mlc L [("place", 6)] rfl sc_moves_of.nd (irange1 rfl U.n_range (mcallB (call_lenM) rfl U.n_len bt_len (acons (fcall (F .Fplaces_of) rm rfl (U.mgf .Fplaces_of) (U.fn .Fplaces_of).kp (U.bind .Fplaces_of) (acons (mvar 0) (anil))) (anil)))) rfl (fun _ _ _ _ _ => wname 6 sc_moves_of.nd) (fun _ _ _ _ _ => ptsnil) (fun _ _ _ _ _ => mcallT call_tupleM rfl U.n_tuple bt_tuple (acons (mset rfl (mix rm.u1 (mvar 2) (mvar 6)) (hm := U.n_sorted) (hm2 := U.n_set)) (anil)))) (anil)))) (sone (sret (mtup (acons (mcallT call_tupleM rfl U.n_tuple bt_tuple (acons (mset rfl (mvar 1) (hm := U.n_sorted) (hm2 := U.n_set)) (anil))) (acons (mvar 5) (acons (mcallT call_tupleM rfl U.n_tuple bt_tuple (acons (mset rfl (mvar 3) (hm := U.n_sorted) (hm2 := U.n_set)) (anil))) (acons (mvar 4) (anil)))))))))
theorem ok__law_begun (U : Txt K w mg ad fd) (U2 : Kds K w mg d_PARTS) (F : ∀ f, FnM T P w K mg base (k + 2) (ad f) (fd f) f.ps (g f)) (cdv : Value) (A : Around) (out : List Env) (s : Shared) (H : Hp) (rm : Rm (k + 2) (A.deeper (PyProof.Rows.envOfC "_law_begun" (defScope (top 11)) s.heap.objs.size (ad .F_law_begun) cdv))) :
    PSs (cxOf CX0 P w K mg base (Fn.ns .F_law_begun) "_law_begun" (defScope (top 11)) (ad .F_law_begun) cdv A out s H E0).nox (defBody (top 11)) (sM T K (b__law_begun L g)) :=
  scons (ssetLc 1 L [("cell", 2)] rfl sc__law_begun.nd (iover (mvar 0)) rfl (fun _ _ _ _ _ => wname 2 sc__law_begun.nd) (fun _ _ _ _ _ => ptsone (mtcmp (o_ge) (mcallB (call_absM) rfl U.n_abs bt_abs (acons (mvar 2) (anil))) (mbin .Pow (mint) (mint)))) (fun _ _ _ _ _ => mbin .Sub (mcallB (call_absM) rfl U.n_abs bt_abs (acons (mvar 2) (anil))) (mbin .Pow (mint) (mint)))) (sone (sret (mdisp (prs := (cD (.str "great"), varD 1) :: (cD (.str "cells"), lcD L [2] (overS (varD 0)) (nameG 2) (yesT) (callD (on1 absD) (consA (varD 2) (nilA)))) :: (cD (.str "rest"), cD (.int 0)) :: (cD (.str "turn"), cD (.int 0)) :: []) (dcons (mstr) (mvar 1) (dcons (mstr) (mlc L [("cell", 2)] rfl sc__law_begun.nd (iover (mvar 0)) rfl (fun _ _ _ _ _ => wname 2 sc__law_begun.nd) (fun _ _ _ _ _ => ptsnil) (fun _ _ _ _ _ => mcallB (call_absM) rfl U.n_abs bt_abs (acons (mvar 2) (anil)))) (dcons (mstr) (mint) (dcons (mstr) (mint) (dnil))))))))
theorem ok__law_mixed (U : Txt K w mg ad fd) (U2 : Kds K w mg d_PARTS) (F : ∀ f, FnM T P w K mg base (k + 2) (ad f) (fd f) f.ps (g f)) (cdv : Value) (A : Around) (out : List Env) (s : Shared) (H : Hp) (rm : Rm (k + 2) (A.deeper (PyProof.Rows.envOfC "_law_mixed" (defScope (top 12)) s.heap.objs.size (ad .F_law_mixed) cdv))) :
    PSs (cxOf CX0 P w K mg base (Fn.ns .F_law_mixed) "_law_mixed" (defScope (top 12)) (ad .F_law_mixed) cdv A out s H E0).nox (defBody (top 12)) (sM T K (b__law_mixed L g)) :=
  scons (spar 1 2 rfl sc__law_mixed.nd (acons (mbin .Add (mix rm.u1 (mvar 0) (mstr)) (mint)) (acons (mint) (anil)))) (scons (sasg (mvar 1) (gsub rm.u1 (mvar 0) (mstr))) (scons (sfor L PassesOwn.never rfl (iover (mlst (acons (mint) (acons (mint) (acons (mint) (acons (mint) (anil))))))) (gname 3 sc__law_mixed.nd) (scons (sset 4 sc__law_mixed.nd (mbin .Add (mbin .Mult (mint) (mvar 1)) (mbin .FloorDiv (mvar 3) (mint)))) (scons (sfor L PassesOwn.never rfl (iover (mix rm.u1 (mvar 0) (mstr))) (gname 5 sc__law_mixed.nd) (sone (sset 4 sc__law_mixed.nd (mbin .Mod (mcallT call_intM rfl U.n_int bt_int (acons (mbin .Add (mbin .Add (mbin .Mult (mvar 4) (mint)) (mvar 5)) (mvar 1)) (anil))) (mvar 3))))) (sone (sset 2 sc__law_mixed.nd (mbin .Add (mbin .Mult (mvar 2) (mint)) (mbin .Mod (mcallT call_intM rfl U.n_int bt_int (acons (mbin .Pow (mvar 4) (mint)) (anil))) (mvar 3)))))))) (sone (sret (mvar 2)))))
theorem ok__law_draw (U : Txt K w mg ad fd) (U2 : Kds K w mg d_PARTS) (F : ∀ f, FnM T P w K mg base (k + 2) (ad f) (fd f) f.ps (g f)) (cdv : Value) (A : Around) (out : List Env) (s : Shared) (H : Hp) (rm : Rm (k + 2) (A.deeper (PyProof.Rows.envOfC "_law_draw" (defScope (top 13)) s.heap.objs.size (ad .F_law_draw) cdv))) :
    PSs (cxOf CX0 P w K mg base (Fn.ns .F_law_draw) "_law_draw" (defScope (top 13)) (ad .F_law_draw) cdv A out s H E0).nox (defBody (top 13)) (sM T K (b__law_draw L g)) :=
  scons (sif (mtcmp (o_eq rm.u64) (mix rm.u1 (mvar 0) (mstr)) (mint)) (sone (sasg (mif (mtcmp (o_ne rm.u64) (mix rm.u1 (mvar 0) (mstr)) (mlst (anil))) (mlm PySem.F.slot_list_pop PySem.F.type_list_pop mt_popM (mix rm.u1 (mvar 0) (mstr)) (acons (mint) (anil))) (fcall (F .F_law_mixed) rm rfl (U.mgf .F_law_mixed) (U.fn .F_law_mixed).kp (U.bind .F_law_mixed) (acons (mvar 0) (anil)))) (gsub rm.u1 (mvar 0) (mstr)))) (snil)) (scons (sset 2 sc__law_draw.nd (mbin .Mod (mcallT call_intM rfl U.n_int bt_int (acons (mix rm.u1 (mvar 0) (mstr)) (anil))) (mvar 1))) (scons (sasg (mbin .FloorDiv (mix rm.u1 (mvar 0) (mstr)) (mvar 1)) (gsub rm.u1 (mvar 0) (mstr))) (sone (sret (mvar 2)))))
theorem ok__law_pick (U : Txt K w mg ad fd) (U2 : Kds K w mg d_PARTS) (F : ∀ f, FnM T P w K mg base (k + 2) (ad f) (fd f) f.ps (g f)) (cdv : Value) (A : Around) (out : List Env) (s : Shared) (H : Hp) (rm : Rm (k + 2) (A.deeper (PyProof.Rows.envOfC "_law_pick" (defScope (top 14)) s.heap.objs.size (ad .F_law_pick) cdv))) :
    PSs (cxOf CX0 P w K mg base (Fn.ns .F_law_pick) "_law_pick" (defScope (top 14)) (ad .F_law_pick) cdv A out s H E0).nox (defBody (top 14)) (sM T K (b__law_pick L g)) :=
  sone (sret (mix rm.u1 (mvar 1) (fcall (F .F_law_draw) rm rfl (U.mgf .F_law_draw) (U.fn .F_law_draw).kp (U.bind .F_law_draw) (acons (mvar 0) (acons (mcallB (call_lenM) rfl U.n_len bt_len (acons (mvar 1) (anil))) (anil))))))
theorem ok__law_plain (U : Txt K w mg ad fd) (U2 : Kds K w mg d_PARTS) (F : ∀ f, FnM T P w K mg base (k + 2) (ad f) (fd f) f.ps (g f)) (cdv : Value) (A : Around) (out : List Env) (s : Shared) (H : Hp) (rm : Rm (k + 2) (A.deeper (PyProof.Rows.envOfC "_law_plain" (defScope (top 15)) s.heap.objs.size (ad .F_law_plain) cdv))) :
    PSs (cxOf CX0 P w K mg base (Fn.ns .F_law_plain) "_law_plain" (defScope (top 15)) (ad .F_law_plain) cdv A out s H E0).nox (defBody (top 15)) (sM T K (b__law_plain L g)) :=
  scons (sif (mtst (mcallB (call_isiM) rfl U.n_isinstance bt_isinstance (acons (mvar 0) (acons (mtup (acons (mty .list rfl U.n_list) (acons (mty .tuple rfl U.n_tuple) (anil)))) (anil))))) (sone (sret (mcmp (o_eq rm.u64) (mlc L [("one", 1)] rfl sc__law_plain.nd (iover (mvar 0)) rfl (fun _ _ _ _ _ => wname 1 sc__law_plain.nd) (fun _ _ _ _ _ => ptsone (mtnot (mtst (fcall (F .F_law_plain) rm rfl (U.mgf .F_law_plain) (U.fn .F_law_plain).kp (U.bind .F_law_plain) (acons (mvar 1) (anil)))))) (fun _ _ _ _ _ => mint)) (mlst (anil))))) (snil)) (scons (sif (mtst (mcallB (call_isiM) rfl U.n_isinstance bt_isinstance (acons (mvar 0) (acons (mty .dict rfl U.n_dict) (anil))))) (sone (sret (mfail))) (snil)) (sone (sret (mor (mcmp (o_is) (mvar 0) (mnon)) (mone (mcallB (call_isiM) rfl U.n_isinstance bt_isinstance (acons (mvar 0) (acons (mtup (acons (mty .int rfl U.n_int) (acons (mty .str rfl U.n_str) (anil)))) (anil)))))))))
theorem ok__law_is (U : Txt K w mg ad fd) (U2 : Kds K w mg d_PARTS) (F : ∀ f, FnM T P w K mg base (k + 2) (ad f) (fd f) f.ps (g f)) (cdv : Value) (A : Around) (out : List Env) (s : Shared) (H : Hp) (rm : Rm (k + 2) (A.deeper (PyProof.Rows.envOfC "_law_is" (defScope (top 16)) s.heap.objs.size (ad .F_law_is) cdv))) :
    PSs (cxOf CX0 P w K mg base (Fn.ns .F_law_is) "_law_is" (defScope (top 16)) (ad .F_law_is) cdv A out s H E0).nox (defBody (top 16)) (sM T K (b__law_is L g)) :=
  sone (sret (mand (fcall (F .F_law_plain) rm rfl (U.mgf .F_law_plain) (U.fn .F_law_plain).kp (U.bind .F_law_plain) (acons (mvar 0) (anil))) (mand (mcmp (o_eq rm.u64) (mvar 0) (mvar 1)) (mand (mcmp (o_eq rm.u64) (mvar 1) (mvar 0)) (mone (mcmp (o_eq rm.u64) (mcallB (call_reprM rm.g rm.u70) rfl U.n_repr bt_repr (acons (mvar 0) (anil))) (mcallB (call_reprM rm.g rm.u70) rfl U.n_repr bt_repr (acons (mvar 1) (anil)))))))))
theorem ok__law_some_pattern (U : Txt K w mg ad fd) (U2 : Kds K w mg d_PARTS) (F : ∀ f, FnM T P w K mg base (k + 2) (ad f) (fd f) f.ps (g f)) (cdv : Value) (A : Around) (out : List Env) (s : Shared) (H : Hp) (rm : Rm (k + 2) (A.deeper (PyProof.Rows.envOfC "_law_some_pattern" (defScope (top 17)) s.heap.objs.size (ad .F_law_some_pattern) cdv))) :
    PSs (cxOf CX0 P w K mg base (Fn.ns .F_law_some_pattern) "_law_some_pattern" (defScope (top 17)) (ad .F_law_some_pattern) cdv A out s H E0).nox (defBody (top 17)) (sM T K (b__law_some_pattern L g)) :=
  scons (sset 3 sc__law_some_pattern.nd (mif (mtcmp (o_gt) (mvar 2) (mint)) (fcall (F .F_law_draw) rm rfl (U.mgf .F_law_draw) (U.fn .F_law_draw).kp (U.bind .F_law_draw) (acons (mvar 0) (acons (mint) (anil)))) (fcall (F .F_law_draw) rm rfl (U.mgf .F_law_draw) (U.fn .F_law_draw).kp (U.bind .F_law_draw) (acons (mvar 0) (acons (mint) (anil)))))) (scons (sif (mtcmp (o_eq rm.u64) (mvar 3) (mint)) (sone (sret (mtup (acons (mstr) (anil))))) (snil)) (scons (sif (mtcmp (o_lt) (mvar 3) (mint)) (sone (sret (mtup (acons (mstr) (acons (fcall (F .F_law_pick) rm rfl (U.mgf .F_law_pick) (U.fn .F_law_pick).kp (U.bind .F_law_pick) (acons (mvar 0) (acons (mvar 1) (anil)))) (anil)))))) (snil)) (scons (sif (mtcmp (o_eq rm.u64) (mvar 3) (mint)) (sone (sret (mtup (acons (mstr) (acons (fcall (F .F_law_some_pattern) rm rfl (U.mgf .F_law_some_pattern) (U.fn .F_law_some_pattern).kp (U.bind .F_law_some_pattern) (acons (mvar 0) (acons (mvar 1) (acons (mbin .Sub (mvar 2) (mint)) (anil))))) (anil)))))) (snil)) (sone (sret (mtup (acons (fcall (F .F_law_pick) rm rfl (U.mgf .F_law_pick) (U.fn .F_law_pick).kp (U.bind .F_law_pick) (acons (mvar 0) (acons (mlst (acons (mstr) (acons (mstr) (acons (mstr) (anil))))) (anil)))) (acons (fcall (F .F_law_some_pattern) rm rfl (U.mgf .F_law_some_pattern) (U.fn .F_law_some_pattern).kp (U.bind .F_law_some_pattern) (acons (mvar 0) (acons (mvar 1) (acons (mbin .Sub (mvar 2) (mint)) (anil))))) (acons (fcall (F .F_law_some_pattern) rm rfl (U.mgf .F_law_some_pattern) (U.fn .F_law_some_pattern).kp (U.bind .F_law_some_pattern) (acons (mvar 0) (acons (mvar 1) (acons (mbin .Sub (mvar 2) (mint)) (anil))))) (anil))))))))))
theorem ok__law_hollow (U : Txt K w mg ad fd) (U2 : Kds K w mg d_PARTS) (F : ∀ f, FnM T P w K mg base (k + 2) (ad f) (fd f) f.ps (g f)) (cdv : Value) (A : Around) (out : List Env) (s : Shared) (H : Hp) (rm : Rm (k + 2) (A.deeper (PyProof.Rows.envOfC "_law_hollow" (defScope (top 18)) s.heap.objs.size (ad .F_law_hollow) cdv))) :
    PSs (cxOf CX0 P w K mg base (Fn.ns .F_law_hollow) "_law_hollow" (defScope (top 18)) (ad .F_law_hollow) cdv A out s H E0).nox (defBody (top 18)) (sM T K (b__law_hollow L g)) :=
  scons (sif (mtcmp (o_in rm.u65) (mix rm.u1 (mvar 0) (mint)) (mtup (acons (mstr) (acons (mstr) (anil))))) (sone (sret (mbl))) (snil)) (scons (sif (mtcmp (o_eq rm.u64) (mix rm.u1 (mvar 0) (mint)) (mstr)) (sone (sret (mbl))) (snil)) (scons (spar 1 2 rfl sc__law_hollow.nd (acons (fcall (F .F_law_hollow) rm rfl (U.mgf .F_law_hollow) (U.fn .F_law_hollow).kp (U.bind .F_law_hollow) (acons (mix rm.u1 (mvar 0) (mint)) (anil))) (acons (fcall (F .F_law_hollow) rm rfl (U.mgf .F_law_hollow) (U.fn .F_law_hollow).kp (U.bind .F_law_hollow) (acons (mix rm.u1 (mvar 0) (mint)) (anil))) (anil)))) (sone (sret (mif (mtcmp (o_eq rm.u64) (mix rm.u1 (mvar 0) (mint)) (mstr)) (mand (mvar 1) (mone (mvar 2))) (mor (mvar 1) (mone (mvar 2))))))))
theorem ok__law_rest (U : Txt K w mg ad fd) (U2 : Kds K w mg d_PARTS) (F : ∀ f, FnM T P w K mg base (k + 2) (ad f) (fd f) f.ps (g f)) (cdv : Value) (A : Around) (out : List Env) (s : Shared) (H : Hp) (rm : Rm (k + 2) (A.deeper (PyProof.Rows.envOfC "_law_rest" (defScope (top 19)) s.heap.objs.size (ad .F_law_rest) cdv))) :
    PSs (cxOf CX0 P w K mg base (Fn.ns .F_law_rest) "_law_rest" (defScope (top 19)) (ad .F_law_rest) cdv A out s H E0).nox (defBody (top 19)) (sM T K (b__law_rest L g)) :=
  sone (sret (mif (mtcmp (o_eq rm.u64) (mvar 0) (mtup (acons (mstr) (anil)))) (mvar 1) (mtup (acons (mstr) (acons (mvar 0) (acons (mvar 1) (anil)))))))
theorem ok__law_behind_item (U : Txt K w mg ad fd) (U2 : Kds K w mg d_PARTS) (F : ∀ f, FnM T P w K mg base (k + 2) (ad f) (fd f) f.ps (g f)) (cdv : Value) (A : Around) (out : List Env) (s : Shared) (H : Hp) (rm : Rm (k + 2) (A.deeper (PyProof.Rows.envOfC "_law_behind_item" (defScope (top 20)) s.heap.objs.size (ad .F_law_behind_item) cdv))) :
    PSs (cxOf CX0 P w K mg base (Fn.ns .F_law_behind_item) "_law_behind_item" (defScope (top 20)) (ad .F_law_behind_item) cdv A out s H E0).nox (defBody (top 20)) (sM T K (b__law_behind_item L g)) :=
  scons (sif (mtcmp (o_eq rm.u64) (mix rm.u1 (mvar 0) (mint)) (mstr)) (sone (sret (mlst (anil)))) (snil)) (scons (sif (mtcmp (o_eq rm.u64) (mix rm.u1 (mvar 0) (mint)) (mstr)) (sone (sret (mif (mtcmp (o_in rm.u65) (mix rm.u1 (mvar 0) (mint)) (mvar 1)) (mlst (acons (mtup (acons (mstr) (anil))) (anil))) (mlst (anil))))) (snil)) (scons (sif (mtcmp (o_eq rm.u64) (mix rm.u1 (mvar 0) (mint)) (mstr)) (sone (sset 2 sc__law_behind_item.nd (mlc L [("one", 4)] rfl sc__law_behind_item.nd (iover (fcall (F .F_law_behind_item) rm rfl (U.mgf .F_law_behind_item) (U.fn .F_law_behind_item).kp (U.bind .F_law_behind_item) (acons (mix rm.u1 (mvar 0) (mint)) (acons (mvar 1) (anil))))) rfl (fun _ _ _ _ _ => wname 4 sc__law_behind_item.nd) (fun _ _ _ _ _ => ptsnil) (fun _ _ _ _ _ => fcall (F .F_law_rest) rm rfl (U.mgf .F_law_rest) (U.fn .F_law_rest).kp (U.bind .F_law_rest) (acons (mvar 4) (acons (mvar 0) (anil))))))) (sone (sif (mtcmp (o_eq rm.u64) (mix rm.u1 (mvar 0) (mint)) (mstr)) (sone (sset 2 sc__law_behind_item.nd (mbin .Add (fcall (F .F_law_behind_item) rm rfl (U.mgf .F_law_behind_item) (U.fn .F_law_behind_item).kp (U.bind .F_law_behind_item) (acons (mix rm.u1 (mvar 0) (mint)) (acons (mvar 1) (anil)))) (fcall (F .F_law_behind_item) rm rfl (U.mgf .F_law_behind_item) (U.fn .F_law_behind_item).kp (U.bind .F_law_behind_item) (acons (mix rm.u1 (mvar 0) (mint)) (acons (mvar 1) (anil))))))) (scons (sset 2 sc__law_behind_item.nd (mlc L [("one", 4)] rfl sc__law_behind_item.nd (iover (fcall (F .F_law_behind_item) rm rfl (U.mgf .F_law_behind_item) (U.fn .F_law_behind_item).kp (U.bind .F_law_behind_item) (acons (mix rm.u1 (mvar 0) (mint)) (acons (mvar 1) (anil))))) rfl (fun _ _ _ _ _ => wname 4 sc__law_behind_item.nd) (fun _ _ _ _ _ => ptsnil) (fun _ _ _ _ _ => fcall (F .F_law_rest) rm rfl (U.mgf .F_law_rest) (U.fn .F_law_rest).kp (U.bind .F_law_rest) (acons (mvar 4) (acons (mix rm.u1 (mvar 0) (mint)) (anil)))))) (sone (sset 2 sc__law_behind_item.nd (mbin .Add (mvar 2) (mif (mtst (fcall (F .F_law_hollow) rm rfl (U.mgf .F_law_hollow) (U.fn .F_law_hollow).kp (U.bind .F_law_hollow) (acons (mix rm.u1 (mvar 0) (mint)) (anil)))) (fcall (F .F_law_behind_item) rm rfl (U.mgf .F_law_behind_item) (U.fn .F_law_behind_item).kp (U.bind .F_law_behind_item) (acons (mix rm.u1 (mvar 0) (mint)) (acons (mvar 1) (anil)))) (mlst (anil)))))))))) (sone (sret (mlc L [("nth", 3)] rfl sc__law_behind_item.nd (irange1 rfl U.n_range (mcallB (call_lenM) rfl U.n_len bt_len (acons (mvar 2) (anil)))) rfl (fun _ _ _ _ _ => wname 3 sc__law_behind_item.nd) (fun _ _ _ _ _ => ptsone (mtcmp (o_nin rm.u65) (mix rm.u1 (mvar 2) (mvar 3)) (mslice (mvar 2) (ponone) (posome (mvar 3))))) (fun _ _ _ _ _ => mix rm.u1 (mvar 2) (mvar 3)))))))
theorem ok__law_left (U : Txt K w mg ad fd) (U2 : Kds K w mg d_PARTS) {c1 P1 : Addr} (tb : LamX.TabB base mg c1 P1) (tmem : ((P1, ("_law_left.<locals>.<lambda>" : Str)) : Addr × Str) ∈ T) (tone : ∀ p ∈ T, p.1 = P1 → p.2 = ("_law_left.<locals>.<lambda>" : Str)) (F : ∀ f, FnM T P w K mg base (k + 2) (ad f) (fd f) f.ps (g f)) (A : Around) (out : List Env) (s : Shared) (H : Hp) (rm : Rm (k + 2) (A.deeper (PyProof.Rows.envOfC "_law_left" (defScope (top 21)) s.heap.objs.size (ad .F_law_left) (.ref c1)))) :
    PSs (cxOf CX0 P w K mg base (Fn.ns .F_law_left) "_law_left" (defScope (top 21)) (ad .F_law_left) (.ref c1) A out s H E0).nox (defBody (top 21)) (sM T K (b__law_left L g)) :=
  scons (sset 2 sc__law_left.nd (mlst (anil))) (scons (sfor L PassesOwn.never rfl (iover (mvar 0)) (gname 3 sc__law_left.nd) (sone (sset 2 sc__law_left.nd (mbin .Add (mvar 2) (mlc L [("one", 4)] rfl sc__law_left.nd (iover (fcall (F .F_law_behind_item) rm rfl (U.mgf .F_law_behind_item) (U.fn .F_law_behind_item).kp (U.bind .F_law_behind_item) (acons (mvar 3) (acons (mvar 1) (anil))))) rfl (fun _ _ _ _ _ => wname 4 sc__law_left.nd) (fun _ _ _ _ _ => ptsone (mtcmp (o_nin rm.u65) (mvar 4) (mvar 2))) (fun _ _ _ _ _ => mvar 4)))))) (sone (sret (msortR rm.two (mvar 2) rfl U.n_sorted tb rfl tmem tone U.n_repr (fun _ _ _ _ _ => by rfl) ⟨by rfl, by rfl, by rfl, by decide +kernel, by rfl, by decide +kernel, by decide +kernel⟩ (by rfl) (Or.inl (by rfl)) (by rfl) (by decide +kernel) (by decide) (by decide)))))
theorem ok__law_items (U : Txt K w mg ad fd) (U2 : Kds K w mg d_PARTS) (F : ∀ f, FnM T P w K mg base (k + 2) (ad f) (fd f) f.ps (g f)) (cdv : Value) (A : Around) (out : List Env) (s : Shared) (H : Hp) (rm : Rm (k + 2) (A.deeper (PyProof.Rows.envOfC "_law_items" (defScope (top 22)) s.heap.objs.size (ad .F_law_items) cdv))) :
    PSs (cxOf CX0 P w K mg base (Fn.ns .F_law_items) "_law_items" (defScope (top 22)) (ad .F_law_items) cdv A out s H E0).nox (defBody (top 22)) (sM T K (b__law_items L g)) :=
  scons (sif (mtcmp (o_eq rm.u64) (mix rm.u1 (mvar 0) (mint)) (mstr)) (sone (sret (mlst (acons (mix rm.u1 (mvar 0) (mint)) (anil))))) (snil)) (scons (sset 1 sc__law_items.nd (mlst (anil))) (scons (sfor L PassesOwn.never rfl (iover (mslice (mvar 0) (posome (mint)) (ponone))) (gname 2 sc__law_items.nd) (sone (sset 1 sc__law_items.nd (mbin .Add (mvar 1) (fcall (F .F_law_items) rm rfl (U.mgf .F_law_items) (U.fn .F_law_items).kp (U.bind .F_law_items) (acons (mvar 2) (anil))))))) (sone (sret (mvar 1)))))
theorem ok__law_numbered (U : Txt K w mg ad fd) (U2 : Kds K w mg d_PARTS) (F : ∀ f, FnM T P w K mg base (k + 2) (ad f) (fd f) f.ps (g f)) (cdv : Value) (A : Around) (out : List Env) (s : Shared) (H : Hp) (rm : Rm (k + 2) (A.deeper (PyProof.Rows.envOfC "_law_numbered" (defScope (top 23)) s.heap.objs.size (ad .F_law_numbered) cdv))) :
    PSs (cxOf CX0 P w K mg base (Fn.ns .F_law_numbered) "_law_numbered" (defScope (top 23)) (ad .F_law_numbered) cdv A out s H E0).nox (defBody (top 23)) (sM T K (b__law_numbered L g)) :=
  scons (sif (mtcmp (o_eq rm.u64) (mix rm.u1 (mvar 0) (mint)) (mstr)) (sone (sret (mtup (acons (mstr) (acons (mcallT call_strM rfl U.n_str bt_str (acons (mvar 1) (anil))) (anil)))))) (snil)) (scons (sset 2 sc__law_numbered.nd (mlst (acons (mix rm.u1 (mvar 0) (mint)) (anil)))) (scons (sfor L PassesOwn.never rfl (iover (mslice (mvar 0) (posome (mint)) (ponone))) (gname 3 sc__law_numbered.nd) (scons (sdrop (mlm PySem.F.slot_list_append PySem.F.type_list_append mt_appendM (mvar 2) (acons (fcall (F .F_law_numbered) rm rfl (U.mgf .F_law_numbered) (U.fn .F_law_numbered).kp (U.bind .F_law_numbered) (acons (mvar 3) (acons (mvar 1) (anil)))) (anil)))) (sone (sset 1 sc__law_numbered.nd (mbin .Add (mvar 1) (mcallB (call_lenM) rfl U.n_len bt_len (acons (fcall (F .F_law_items) rm rfl (U.mgf .F_law_items) (U.fn .F_law_items).kp (U.bind .F_law_items) (acons (mvar 3) (anil))) (anil)))))))) (sone (sret (mcallT call_tupleM rfl U.n_tuple bt_tuple (acons (mvar 2) (anil)))))))
theorem ok__law_takes (U : Txt K w mg ad fd) (U2 : Kds K w mg d_PARTS) (F : ∀ f, FnM T P w K mg base (k + 2) (ad f) (fd f) f.ps (g f)) (cdv : Value) (A : Around) (out : List Env) (s : Shared) (H : Hp) (rm : Rm (k + 2) (A.deeper (PyProof.Rows.envOfC "_law_takes" (defScope (top 24)) s.heap.objs.size (ad .F_law_takes) cdv))) :
    PSs (cxOf CX0 P w K mg base (Fn.ns .F_law_takes) "_law_takes" (defScope (top 24)) (ad .F_law_takes) cdv A out s H E0).nox (defBody (top 24)) (sM T K (b__law_takes L g)) :=
  scons (sset 2 sc__law_takes.nd (mlst (acons (mvar 0) (anil)))) (scons (sfor L PassesOwn.never rfl (iover (mvar 1)) (gname 3 sc__law_takes.nd) (sone (sset 2 sc__law_takes.nd (fcall (F .F_law_left) rm rfl (U.mgf .F_law_left) (U.fn .F_law_left).kp (U.bind .F_law_left) (acons (mvar 2) (acons (mtup (acons (mvar 3) (anil))) (anil))))))) (sone (sret (mcmp (o_in rm.u65) (mbl) (mlc L [("one", 4)] rfl sc__law_takes.nd (iover (mvar 2)) rfl (fun _ _ _ _ _ => wname 4 sc__law_takes.nd) (fun _ _ _ _ _ => ptsnil) (fun _ _ _ _ _ => fcall (F .F_law_hollow) rm rfl (U.mgf .F_law_hollow) (U.fn .F_law_hollow).kp (U.bind .F_law_hollow) (acons (mvar 4) (anil))))))))
theorem ok__law_goes (U : Txt K w mg ad fd) (U2 : Kds K w mg d_PARTS) (F : ∀ f, FnM T P w K mg base (k + 2) (ad f) (fd f) f.ps (g f)) (cdv : Value) (A : Around) (out : List Env) (s : Shared) (H : Hp) (rm : Rm (k + 2) (A.deeper (PyProof.Rows.envOfC "_law_goes" (defScope (top 25)) s.heap.objs.size (ad .F_law_goes) cdv))) :
    PSs (cxOf CX0 P w K mg base (Fn.ns .F_law_goes) "_law_goes" (defScope (top 25)) (ad .F_law_goes) cdv A out s H E0).nox (defBody (top 25)) (sM T K (b__law_goes L g)) :=
  scons (sasg (mvar 0) (gtup rfl (gcons (gname 2 sc__law_goes.nd) (gcons (gname 3 sc__law_goes.nd) (gcons (gname 4 sc__law_goes.nd) (gcons (gname 5 sc__law_goes.nd) (gnil))))))) (scons (sif (mtcmp (o_eq rm.u64) (mvar 1) (mtup (anil))) (sone (sret (mvar 5))) (snil)) (scons (ssetLc 6 L [("one", 7), ("other", 8)] rfl sc__law_goes.nd (izip rfl U.n_zip (mvar 1) (mslice (mvar 1) (posome (mint)) (ponone))) rfl (fun _ _ _ _ _ => wtup rfl (wcons (wname 7 sc__law_goes.nd) (wcons (wname 8 sc__law_goes.nd) (wnil)))) (fun _ _ _ _ _ => ptsone (mtcmp (o_nin rm.u65) (mvar 8) (mix rm.u1 (mvar 3) (mvar 7)))) (fun _ _ _ _ _ => mvar 7)) (sone (sret (mand (mcmp (o_in rm.u65) (mix rm.u1 (mvar 1) (mint)) (mvar 2)) (mand (mcmp (o_eq rm.u64) (mvar 6) (mlst (anil))) (mone (mcmp (o_in rm.u65) (mix rm.u1 (mvar 1) (mneg (mint))) (mvar 4)))))))))
theorem ok__law_deep (U : Txt K w mg ad fd) (U2 : Kds K w mg d_PARTS) (F : ∀ f, FnM T P w K mg base (k + 2) (ad f) (fd f) f.ps (g f)) (cdv : Value) (A : Around) (out : List Env) (s : Shared) (H : Hp) (rm : Rm (k + 2) (A.deeper (PyProof.Rows.envOfC "_law_deep" (defScope (top 26)) s.heap.objs.size (ad .F_law_deep) cdv))) :
    PSs (cxOf CX0 P w K mg base (Fn.ns .F_law_deep) "_law_deep" (defScope (top 26)) (ad .F_law_deep) cdv A out s H E0).nox (defBody (top 26)) (sM T K (b__law_deep L g)) :=
  sone (sret (mif (mtcmp (o_in rm.u65) (mix rm.u1 (mvar 0) (mint)) (mtup (acons (mstr) (acons (mstr) (anil))))) (mint) (mbin .Add (mint) (mcallB (call_maxM rfl) rfl U.n_max bt_max (acons (mlc L [("one", 1)] rfl sc__law_deep.nd (iover (mslice (mvar 0) (posome (mint)) (ponone))) rfl (fun _ _ _ _ _ => wname 1 sc__law_deep.nd) (fun _ _ _ _ _ => ptsnil) (fun _ _ _ _ _ => fcall (F .F_law_deep) rm rfl (U.mgf .F_law_deep) (U.fn .F_law_deep).kp (U.bind .F_law_deep) (acons (mvar 1) (anil)))) (anil))))))
theorem ok__law_due (U : Txt K w mg ad fd) (U2 : Kds K w mg d_PARTS) (F : ∀ f, FnM T P w K mg base (k + 2) (ad f) (fd f) f.ps (g f)) (cdv : Value) (A : Around) (out : List Env) (s : Shared) (H : Hp) (rm : Rm (k + 2) (A.deeper (PyProof.Rows.envOfC "_law_due" (defScope (top 27)) s.heap.objs.size (ad .F_law_due) cdv))) :
    PSs (cxOf CX0 P w K mg base (Fn.ns .F_law_due) "_law_due" (defScope (top 27)) (ad .F_law_due) cdv A out s H E0).nox (defBody (top 27)) (sM T K (b__law_due L g)) :=
  scons (sif (PW.pt (mtor (mtnot (mtst (mcallB (call_isiM) rfl U.n_isinstance bt_isinstance (acons (mvar 0) (acons (mty .tuple rfl U.n_tuple) (anil)))))) (mtor (mtcmp (o_eq rm.u64) (mvar 0) (mtup (anil))) (mtor1 (mtcmp (o_nin rm.u65) (mix rm.u1 (mvar 0) (mint)) (mtup (acons (mstr) (acons (mstr) (acons (mstr) (acons (mstr) (acons (mstr) (anil)))))))))))) (sone (sret (mbl))) (snil)) (scons (sif (mtcmp (o_ne rm.u64) (mcallB (call_lenM) rfl U.n_len bt_len (acons (mvar 0) (anil))) (mix rm.u1 (mdisp (prs := (cD (.str "none"), cD (.int 1)) :: (cD (.str "item"), cD (.int 2)) :: (cD (.str "row"), cD (.int 3)) :: (cD (.str "either"), cD (.int 3)) :: (cD (.str "many"), cD (.int 2)) :: []) (dcons (mstr) (mint) (dcons (mstr) (mint) (dcons (mstr) (mint) (dcons (mstr) (mint) (dcons (mstr) (mint) (dnil))))))) (mix rm.u1 (mvar 0) (mint)))) (sone (sret (mbl))) (snil)) (scons (sif (mtcmp (o_eq rm.u64) (mix rm.u1 (mvar 0) (mint)) (mstr)) (sone (sret (mcmp (o_in rm.u65) (mix rm.u1 (mvar 0) (mint)) (mlst (acons (mstr) (acons (mstr) (anil))))))) (snil)) (sone (sret (mcmp (o_eq rm.u64) (mlc L [("one", 1)] rfl sc__law_due.nd (iover (mslice (mvar 0) (posome (mint)) (ponone))) rfl (fun _ _ _ _ _ => wname 1 sc__law_due.nd) (fun _ _ _ _ _ => ptsone (mtnot (mtst (fcall (F .F_law_due) rm rfl (U.mgf .F_law_due) (U.fn .F_law_due).kp (U.bind .F_law_due) (acons (mvar 1) (anil)))))) (fun _ _ _ _ _ => mvar 1)) (mlst (anil)))))))
theorem ok_law (U : Txt K w mg ad fd) (U2 : Kds K w mg d_PARTS) (F : ∀ f, FnM T P w K mg base (k + 2) (ad f) (fd f) f.ps (g f)) (cdv : Value) (A : Around) (out : List Env) (s : Shared) (H : Hp) (rm : Rm (k + 2) (A.deeper (PyProof.Rows.envOfC "law" (defScope (top 28)) s.heap.objs.size (ad .Flaw) cdv))) :
    PSs (cxOf CX0 P w K mg base (Fn.ns .Flaw) "law" (defScope (top 28)) (ad .Flaw) cdv A out s H E0).nox (defBody (top 28)) (sM T K (b_law L g)) :=
  scons (sset 1 sc_law.nd (fcall (F .F_law_begun) rm rfl (U.mgf .F_law_begun) (U.fn .F_law_begun).kp (U.bind .F_law_begun) (acons (mvar 0) (anil)))) (scons (sif (mtnot (mtst (fcall (F .F_law_is) rm rfl (U.mgf .F_law_is) (U.fn .F_law_is).kp (U.bind .F_law_is) (acons (fcall (F .Fmoves_of) rm rfl (U.mgf .Fmoves_of) (U.fn .Fmoves_of).kp (U.bind .Fmoves_of) (acons (mtup (acons (mstr) (acons (mtup (acons (mstr) (acons (mtup (acons (mstr) (acons (mstr) (anil)))) (anil)))) (acons (mtup (acons (mstr) (acons (mtup (acons (mstr) (acons (mstr) (anil)))) (acons (mtup (acons (mstr) (anil))) (anil))))) (anil))))) (anil))) (acons (mtup (acons (mtup (acons (mint) (acons (mint) (anil)))) (acons (mtup (acons (mtup (acons (mint) (acons (mint) (anil)))) (acons (mtup (anil)) (anil)))) (acons (mtup (acons (mint) (acons (mint) (anil)))) (acons (mbl) (anil)))))) (anil)))))) (sone (sret (mbl))) (snil)) (scons (sfor L PassesOwn.never rfl (irange1 rfl U.n_range (mint)) (gname 2 sc_law.nd) (scons (sset 3 sc_law.nd (fcall (F .F_law_some_pattern) rm rfl (U.mgf .F_law_some_pattern) (U.fn .F_law_some_pattern).kp (U.bind .F_law_some_pattern) (acons (mvar 1) (acons (mlst (acons (mstr) (acons (mstr) (anil)))) (acons (fcall (F .F_law_pick) rm rfl (U.mgf .F_law_pick) (U.fn .F_law_pick).kp (U.bind .F_law_pick) (acons (mvar 1) (acons (mlst (acons (mint) (acons (mint) (acons (mint) (anil))))) (anil)))) (anil)))))) (scons (sset 4 sc_law.nd (fcall (F .F_law_items) rm rfl (U.mgf .F_law_items) (U.fn .F_law_items).kp (U.bind .F_law_items) (acons (mvar 3) (anil)))) (scons (sset 5 sc_law.nd (mand (mcmp (o_le) (fcall (F .F_law_deep) rm rfl (U.mgf .F_law_deep) (U.fn .F_law_deep).kp (U.bind .F_law_deep) (acons (mvar 3) (anil))) (mint)) (mone (mcmp (o_le) (mcallB (call_lenM) rfl U.n_len bt_len (acons (mvar 4) (anil))) (mint))))) (scons (sif (PW.pt (mtor (mtnot (mtst (fcall (F .F_law_is) rm rfl (U.mgf .F_law_is) (U.fn .F_law_is).kp (U.bind .F_law_is) (acons (fcall (F .Fis_pattern) rm rfl (U.mgf .Fis_pattern) (U.fn .Fis_pattern).kp (U.bind .Fis_pattern) (acons (mvar 3) (acons (mlst (acons (mstr) (acons (mstr) (anil)))) (anil)))) (acons (mvar 5) (anil)))))) (mtor1 (mtcmp (o_ne rm.u64) (fcallKw (F .Fis_pattern) rm rfl (U.mgf .Fis_pattern) (U.fn .Fis_pattern).kp U.kw_is_pattern ord_swap (kcons (mlst (acons (mstr) (anil))) (kcons (mvar 3) (knil)))) (mand (mvar 5) (mone (mcmp (o_nin rm.u65) (mstr) (mvar 4)))))))) (sone (sret (mbl))) (snil)) (scons (sif (mtnot (mtst (mvar 5))) (sone (scont)) (snil)) (scons (sasg (mtup (acons (fcall (F .Fmoves_of) rm rfl (U.mgf .Fmoves_of) (U.fn .Fmoves_of).kp (U.bind .Fmoves_of) (acons (mvar 3) (anil))) (acons (mcallB (call_lenM) rfl U.n_len bt_len (acons (mvar 4) (anil))) (anil)))) (gtup rfl (gcons (gname 6 sc_law.nd) (gcons (gname 7 sc_law.nd) (gnil))))) (scons (sif (PW.pt (mtor (mtnot (mtst (fcall (F .F_law_is) rm rfl (U.mgf .F_law_is) (U.fn .F_law_is).kp (U.bind .F_law_is) (acons (fcall (F .Fplaces_of) rm rfl (U.mgf .Fplaces_of) (U.fn .Fplaces_of).kp (U.bind .Fplaces_of) (acons (mvar 3) (anil))) (acons (mcallT call_tupleM rfl U.n_tuple bt_tuple (acons (mvar 4) (anil))) (anil)))))) (mtor (mtcmp (o_ne rm.u64) (fcallKw (F .Fmoves_of) rm rfl (U.mgf .Fmoves_of) (U.fn .Fmoves_of).kp U.kw_moves_of ord_same (kcons (mvar 3) (knil))) (mvar 6)) (mtor1 (mtnot (mtst (fcall (F .F_law_plain) rm rfl (U.mgf .F_law_plain) (U.fn .F_law_plain).kp (U.bind .F_law_plain) (acons (mvar 6) (anil))))))))) (sone (sret (mbl))) (snil)) (scons (sif (PW.pt (mtor (mtcmp (o_ne rm.u64) (mlc L [("some", 18)] rfl sc_law.nd (iover (mbin .Add (mlst (acons (mix rm.u1 (mvar 6) (mint)) (acons (mix rm.u1 (mvar 6) (mint)) (anil)))) (mcallT call_listM rfl U.n_list bt_list (acons (mix rm.u1 (mvar 6) (mint)) (anil))))) rfl (fun _ _ _ _ _ => wname 18 sc_law.nd) (fun _ _ _ _ _ => ptsone (mtcmp (o_ne rm.u64) (mcallT call_listM rfl U.n_list bt_list (acons (mvar 18) (anil))) (mset rfl (mvar 18) (hm := U.n_sorted) (hm2 := U.n_set)))) (fun _ _ _ _ _ => mvar 18)) (mlst (anil))) (mtor1 (mtcmp (o_ne rm.u64) (mcallB (call_lenM) rfl U.n_len bt_len (acons (mix rm.u1 (mvar 6) (mint)) (anil))) (mvar 7))))) (sone (sret (mbl))) (snil)) (scons (spar 8 9 rfl sc_law.nd (acons (fcall (F .F_law_numbered) rm rfl (U.mgf .F_law_numbered) (U.fn .F_law_numbered).kp (U.bind .F_law_numbered) (acons (mvar 3) (acons (mint) (anil)))) (acons (mlst (acons (mtup (anil)) (anil))) (anil)))) (scons (sfor L PassesOwn.never rfl (irange1 rfl U.n_range (mint)) (gname 10 sc_law.nd) (scons (sset 11 sc_law.nd (mlst (anil))) (scons (sfor L PassesOwn.never rfl (iover (mslice (mvar 9) (posome (mneg (mint))) (ponone))) (gname 12 sc_law.nd) (sone (sset 11 sc_law.nd (mbin .Add (mvar 11) (mlc L [("place", 19)] rfl sc_law.nd (irange1 rfl U.n_range (mcallB (call_minM rfl) rfl U.n_min bt_min (acons (mvar 7) (acons (mint) (anil))))) rfl (fun _ _ _ _ _ => wname 19 sc_law.nd) (fun _ _ _ _ _ => ptsnil) (fun _ _ _ _ _ => mbin .Add (mvar 12) (mtup (acons (mvar 19) (anil))))))))) (sone (sset 9 sc_law.nd (mbin .Add (mvar 9) (mvar 11))))))) (scons (sfor L PassesOwn.never rfl (irange1 rfl U.n_range (mint)) (gname 13 sc_law.nd) (sone (sdrop (mlm PySem.F.slot_list_append PySem.F.type_list_append mt_appendM (mvar 9) (acons (mif (mtcmp (o_gt) (mvar 7) (mint)) (mcallT call_tupleM rfl U.n_tuple bt_tuple (acons (mlc L [("nth", 20)] rfl sc_law.nd (irange1 rfl U.n_range (fcall (F .F_law_draw) rm rfl (U.mgf .F_law_draw) (U.fn .F_law_draw).kp (U.bind .F_law_draw) (acons (mvar 1) (acons (mint) (anil))))) rfl (fun _ _ _ _ _ => wname 20 sc_law.nd) (fun _ _ _ _ _ => ptsnil) (fun _ _ _ _ _ => fcall (F .F_law_draw) rm rfl (U.mgf .F_law_draw) (U.fn .F_law_draw).kp (U.bind .F_law_draw) (acons (mvar 1) (acons (mvar 7) (anil))))) (anil))) (mtup (anil))) (anil)))))) (scons (sfor L PassesOwn.never rfl (iover (mbin .Add (mslice (mvar 9) (ponone) (posome (mint))) (mslice (mvar 9) (posome (mneg (mint))) (ponone)))) (gname 12 sc_law.nd) (sone (sif (mtcmp (o_ne rm.u64) (fcall (F .F_law_goes) rm rfl (U.mgf .F_law_goes) (U.fn .F_law_goes).kp (U.bind .F_law_goes) (acons (mvar 6) (acons (mvar 12) (anil)))) (fcall (F .F_law_takes) rm rfl (U.mgf .F_law_takes) (U.fn .F_law_takes).kp (U.bind .F_law_takes) (acons (mvar 8) (acons (mlc L [("place", 19)] rfl sc_law.nd (iover (mvar 12)) rfl (fun _ _ _ _ _ => wname 19 sc_law.nd) (fun _ _ _ _ _ => ptsnil) (fun _ _ _ _ _ => mcallT call_strM rfl U.n_str bt_str (acons (mvar 19) (anil)))) (anil))))) (sone (sret (mbl))) (snil)))) (scons (spar 14 15 rfl sc_law.nd (acons (mvar 3) (acons (mvar 3) (anil)))) (scons (sfor L PassesOwn.never rfl (irange1 rfl U.n_range (mbin .Sub (mint) (fcall (F .F_law_deep) rm rfl (U.mgf .F_law_deep) (U.fn .F_law_deep).kp (U.bind .F_law_deep) (acons (mvar 3) (anil))))) (gname 13 sc_law.nd) (sone (sset 14 sc_law.nd (mtup (acons (mstr) (acons (mvar 14) (anil))))))) (scons (swhile L PassesOwn.never (mtcmp (o_lt) (mcallB (call_lenM) rfl U.n_len bt_len (acons (fcall (F .F_law_items) rm rfl (U.mgf .F_law_items) (U.fn .F_law_items).kp (U.bind .F_law_items) (acons (mvar 15) (anil))) (anil))) (mint)) (sone (sset 15 sc_law.nd (mtup (acons (mstr) (acons (mvar 15) (acons (mtup (acons (mstr) (acons (mstr) (anil)))) (anil)))))))) (sone (sfor L PassesOwn.never rfl (iover (mlst (acons (mvar 14) (acons (mvar 15) (acons (mcallT call_listM rfl U.n_list bt_list (acons (mvar 3) (anil))) (acons (mbin .Add (mvar 3) (mtup (acons (mstr) (anil)))) (acons (mtup (anil)) (acons (mnon) (acons (mtup (acons (mstr) (acons (mstr) (anil)))) (acons (mtup (acons (mstr) (acons (mint) (anil)))) (acons (mtup (acons (mstr) (acons (mvar 3) (anil)))) (acons (mtup (acons (mstr) (acons (mvar 3) (anil)))) (acons (mtup (acons (mstr) (acons (mvar 3) (acons (mvar 3) (anil))))) (acons (mtup (acons (mstr) (acons (mlst (acons (mstr) (anil))) (anil)))) (anil))))))))))))))) (gname 16 sc_law.nd) (scons (sset 17 sc_law.nd (mand (fcall (F .F_law_due) rm rfl (U.mgf .F_law_due) (U.fn .F_law_due).kp (U.bind .F_law_due) (acons (mvar 16) (anil))) (mand (mcmp (o_le) (fcall (F .F_law_deep) rm rfl (U.mgf .F_law_deep) (U.fn .F_law_deep).kp (U.bind .F_law_deep) (acons (mvar 16) (anil))) (mint)) (mone (mcmp (o_le) (mcallB (call_lenM) rfl U.n_len bt_len (acons (fcall (F .F_law_items) rm rfl (U.mgf .F_law_items) (U.fn .F_law_items).kp (U.bind .F_law_items) (acons (mvar 16) (anil))) (anil))) (mint)))))) (sone (sif (mtnot (mtst (fcall (F .F_law_is) rm rfl (U.mgf .F_law_is) (U.fn .F_law_is).kp (U.bind .F_law_is) (acons (fcall (F .Fis_pattern) rm rfl (U.mgf .Fis_pattern) (U.fn .Fis_pattern).kp (U.bind .Fis_pattern) (acons (mvar 16) (acons (mlst (acons (mstr) (acons (mstr) (anil)))) (anil)))) (acons (mvar 17) (anil)))))) (sone (sret (mbl))) (snil)))))))))))))))))))))) (sone (sret (mbl)))))
end
end K35


namespace K35
open PySem PySem.Spec L2 Mx
section
variable {T : List (Addr × Str)} {P : Program} {w : World} {K : PySem.W.Frag} {mg : Str → Option Value} {base : Heap} {ad : Fn → Addr} {fd : Fn → FuncData} {L : Nat} {d_PARTS : Addr}
structure Lam (K : PySem.W.Frag) (ad : Fn → Addr) (fd : Fn → FuncData) (c1 : Addr) : Prop where
  ex : ∃ (oc : Value) (od : Option Addr) (kV doc pm : Value) (an : Option Addr) (ct : Value) (osl : Array (Option Value)), fd .F_law_left = PySem.W.fnOf "_law_left" "_law_left" (defArgs (top 21)) (defBody (top 21)) (defScope (top 21)) .none kV doc pm an (.ref c1) ct ∧ K.lookup (ad .F_law_left) = some ⟨oc, od, .func (fd .F_law_left), osl⟩ ∧ PySem.W.codeIn K (.ref c1) "_law_left" = true
theorem all_ok (U : Txt K w mg ad fd) (U2 : Kds K w mg d_PARTS) {c1 P1 : Addr} (V : Lam K ad fd c1) (tb : LamX.TabB base mg c1 P1) (tmem : ((P1, ("_law_left.<locals>.<lambda>" : Str)) : Addr × Str) ∈ T) (tone : ∀ p ∈ T, p.1 = P1 → p.2 = ("_law_left.<locals>.<lambda>" : Str)) : ∀ (k : Nat) (f : Fn), FnM T P w K mg base (k + 2) (ad f) (fd f) f.ps (tab L k f)
  | 0, f => ⟨fun as st r h => (by cases h), fun A out s H args us vs Q r e b v h => (by
    obtain ⟨ρ, st, as, d, st2, R, h1, h2, _⟩ := h
    cases h2)⟩
  | k + 1, .Fis_pattern_within => FnM.of (U.fn .Fis_pattern_within) sc_is_pattern_within fun cdv A out s H rm => ok_is_pattern_within U U2 (all_ok U U2 V tb tmem tone k) cdv A out s H rm
  | k + 1, .Fis_pattern => FnM.of (U.fn .Fis_pattern) sc_is_pattern fun cdv A out s H rm => ok_is_pattern U U2 (all_ok U U2 V tb tmem tone k) cdv A out s H rm
  | k + 1, .Fplaces_of => FnM.of (U.fn .Fplaces_of) sc_places_of fun cdv A out s H rm => ok_places_of U U2 (all_ok U U2 V tb tmem tone k) cdv A out s H rm
  | k + 1, .Fjoined_moves => FnM.of (U.fn .Fjoined_moves) sc_joined_moves fun cdv A out s H rm => ok_joined_moves U U2 (all_ok U U2 V tb tmem tone k) cdv A out s H rm
  | k + 1, .Fmoves_from => FnM.of (U.fn .Fmoves_from) sc_moves_from fun cdv A out s H rm => ok_moves_from U U2 (all_ok U U2 V tb tmem tone k) cdv A out s H rm
  | k + 1, .Fmoves_of => FnM.of (U.fn .Fmoves_of) sc_moves_of fun cdv A out s H rm => ok_moves_of U U2 (all_ok U U2 V tb tmem tone k) cdv A out s H rm
  | k + 1, .F_law_begun => FnM.of (U.fn .F_law_begun) sc__law_begun fun cdv A out s H rm => ok__law_begun U U2 (all_ok U U2 V tb tmem tone k) cdv A out s H rm
  | k + 1, .F_law_mixed => FnM.of (U.fn .F_law_mixed) sc__law_mixed fun cdv A out s H rm => ok__law_mixed U U2 (all_ok U U2 V tb tmem tone k) cdv A out s H rm
  | k + 1, .F_law_draw => FnM.of (U.fn .F_law_draw) sc__law_draw fun cdv A out s H rm => ok__law_draw U U2 (all_ok U U2 V tb tmem tone k) cdv A out s H rm
  | k + 1, .F_law_pick => FnM.of (U.fn .F_law_pick) sc__law_pick fun cdv A out s H rm => ok__law_pick U U2 (all_ok U U2 V tb tmem tone k) cdv A out s H rm
  | k + 1, .F_law_plain => FnM.of (U.fn .F_law_plain) sc__law_plain fun cdv A out s H rm => ok__law_plain U U2 (all_ok U U2 V tb tmem tone k) cdv A out s H rm
  | k + 1, .F_law_is => FnM.of (U.fn .F_law_is) sc__law_is fun cdv A out s H rm => ok__law_is U U2 (all_ok U U2 V tb tmem tone k) cdv A out s H rm
  | k + 1, .F_law_some_pattern => FnM.of (U.fn .F_law_some_pattern) sc__law_some_pattern fun cdv A out s H rm => ok__law_some_pattern U U2 (all_ok U U2 V tb tmem tone k) cdv A out s H rm
  | k + 1, .F_law_hollow => FnM.of (U.fn .F_law_hollow) sc__law_hollow fun cdv A out s H rm => ok__law_hollow U U2 (all_ok U U2 V tb tmem tone k) cdv A out s H rm
  | k + 1, .F_law_rest => FnM.of (U.fn .F_law_rest) sc__law_rest fun cdv A out s H rm => ok__law_rest U U2 (all_ok U U2 V tb tmem tone k) cdv A out s H rm
  | k + 1, .F_law_behind_item => FnM.of (U.fn .F_law_behind_item) sc__law_behind_item fun cdv A out s H rm => ok__law_behind_item U U2 (all_ok U U2 V tb tmem tone k) cdv A out s H rm
  | k + 1, .F_law_left => by
    obtain ⟨oc, od, kV, doc, pm, an, ct, osl, e, lk, hc⟩ := V.ex
    rw [e] at lk ⊢
    exact FnM.ofC lk hc sc__law_left fun A out s H rm => ok__law_left U U2 tb tmem tone (all_ok U U2 V tb tmem tone k) A out s H rm
  | k + 1, .F_law_items => FnM.of (U.fn .F_law_items) sc__law_items fun cdv A out s H rm => ok__law_items U U2 (all_ok U U2 V tb tmem tone k) cdv A out s H rm
  | k + 1, .F_law_numbered => FnM.of (U.fn .F_law_numbered) sc__law_numbered fun cdv A out s H rm => ok__law_numbered U U2 (all_ok U U2 V tb tmem tone k) cdv A out s H rm
  | k + 1, .F_law_takes => FnM.of (U.fn .F_law_takes) sc__law_takes fun cdv A out s H rm => ok__law_takes U U2 (all_ok U U2 V tb tmem tone k) cdv A out s H rm
  | k + 1, .F_law_goes => FnM.of (U.fn .F_law_goes) sc__law_goes fun cdv A out s H rm => ok__law_goes U U2 (all_ok U U2 V tb tmem tone k) cdv A out s H rm
  | k + 1, .F_law_deep => FnM.of (U.fn .F_law_deep) sc__law_deep fun cdv A out s H rm => ok__law_deep U U2 (all_ok U U2 V tb tmem tone k) cdv A out s H rm
  | k + 1, .F_law_due => FnM.of (U.fn .F_law_due) sc__law_due fun cdv A out s H rm => ok__law_due U U2 (all_ok U U2 V tb tmem tone k) cdv A out s H rm
  | k + 1, .Flaw => FnM.of (U.fn .Flaw) sc_law fun cdv A out s H rm => ok_law U U2 (all_ok U U2 V tb tmem tone k) cdv A out s H rm
end
def adOf (f_is_pattern_within f_is_pattern f_places_of f_joined_moves f_moves_from f_moves_of f__law_begun f__law_mixed f__law_draw f__law_pick f__law_plain f__law_is f__law_some_pattern f__law_hollow f__law_rest f__law_behind_item f__law_left f__law_items f__law_numbered f__law_takes f__law_goes f__law_deep f__law_due f_law : Addr) : Fn → Addr
  | .Fis_pattern_within => f_is_pattern_within
  | .Fis_pattern => f_is_pattern
  | .Fplaces_of => f_places_of
  | .Fjoined_moves => f_joined_moves
  | .Fmoves_from => f_moves_from
  | .Fmoves_of => f_moves_of
  | .F_law_begun => f__law_begun
  | .F_law_mixed => f__law_mixed
  | .F_law_draw => f__law_draw
  | .F_law_pick => f__law_pick
  | .F_law_plain => f__law_plain
  | .F_law_is => f__law_is
  | .F_law_some_pattern => f__law_some_pattern
  | .F_law_hollow => f__law_hollow
  | .F_law_rest => f__law_rest
  | .F_law_behind_item => f__law_behind_item
  | .F_law_left => f__law_left
  | .F_law_items => f__law_items
  | .F_law_numbered => f__law_numbered
  | .F_law_takes => f__law_takes
  | .F_law_goes => f__law_goes
  | .F_law_deep => f__law_deep
  | .F_law_due => f__law_due
  | .Flaw => f_law
def fdOf (f_is_pattern_within f_is_pattern f_places_of f_joined_moves f_moves_from f_moves_of f__law_begun f__law_mixed f__law_draw f__law_pick f__law_plain f__law_is f__law_some_pattern f__law_hollow f__law_rest f__law_behind_item f__law_left f__law_items f__law_numbered f__law_takes f__law_goes f__law_deep f__law_due f_law : FuncData) : Fn → FuncData
  | .Fis_pattern_within => f_is_pattern_within
  | .Fis_pattern => f_is_pattern
  | .Fplaces_of => f_places_of
  | .Fjoined_moves => f_joined_moves
  | .Fmoves_from => f_moves_from
  | .Fmoves_of => f_moves_of
  | .F_law_begun => f__law_begun
  | .F_law_mixed => f__law_mixed
  | .F_law_draw => f__law_draw
  | .F_law_pick => f__law_pick
  | .F_law_plain => f__law_plain
  | .F_law_is => f__law_is
  | .F_law_some_pattern => f__law_some_pattern
  | .F_law_hollow => f__law_hollow
  | .F_law_rest => f__law_rest
  | .F_law_behind_item => f__law_behind_item
  | .F_law_left => f__law_left
  | .F_law_items => f__law_items
  | .F_law_numbered => f__law_numbered
  | .F_law_takes => f__law_takes
  | .F_law_goes => f__law_goes
  | .F_law_deep => f__law_deep
  | .F_law_due => f__law_due
  | .Flaw => f_law
set_option maxHeartbeats 0 in
theorem all_mk {l : PySem.W.OpenLaw} {w : World} {K : PySem.W.Frag} {h : Heap} {mg : Str → Option Value} {fa : Addr} {k L : Nat} (inK : K.In h) (G : h.Ns mainGlobals mg) (hfa : mg "law" = some (.ref fa))
    (ft : ∀ (c P : Addr), PySem.W.tabIn K "_law_left" = some (c, P) → PySem.W.CodeHd h c P ∧ h.get? P = some { cls := .none, data := .fields #[] })
    {f_is_pattern_within : Addr} {od_is_pattern_within an_is_pattern_within : Option Addr} {sl_is_pattern_within : Array (Option Value)} {oc_is_pattern_within kV_is_pattern_within dc_is_pattern_within pm_is_pattern_within ct_is_pattern_within : Value} {cd_is_pattern_within : Value} {f_is_pattern : Addr} {od_is_pattern an_is_pattern : Option Addr} {sl_is_pattern : Array (Option Value)} {oc_is_pattern kV_is_pattern dc_is_pattern pm_is_pattern ct_is_pattern : Value} {cd_is_pattern : Value} {f_places_of : Addr} {od_places_of an_places_of : Option Addr} {sl_places_of : Array (Option Value)} {oc_places_of kV_places_of dc_places_of pm_places_of ct_places_of : Value} {cd_places_of : Value} {f_joined_moves : Addr} {od_joined_moves an_joined_moves : Option Addr} {sl_joined_moves : Array (Option Value)} {oc_joined_moves kV_joined_moves dc_joined_moves pm_joined_moves ct_joined_moves : Value} {cd_joined_moves : Value} {f_moves_from : Addr} {od_moves_from an_moves_from : Option Addr} {sl_moves_from : Array (Option Value)} {oc_moves_from kV_moves_from dc_moves_from pm_moves_from ct_moves_from : Value} {cd_moves_from : Value} {f_moves_of : Addr} {od_moves_of an_moves_of : Option Addr} {sl_moves_of : Array (Option Value)} {oc_moves_of kV_moves_of dc_moves_of pm_moves_of ct_moves_of : Value} {cd_moves_of : Value} {f__law_begun : Addr} {od__law_begun an__law_begun : Option Addr} {sl__law_begun : Array (Option Value)} {oc__law_begun kV__law_begun dc__law_begun pm__law_begun ct__law_begun : Value} {cd__law_begun : Value} {f__law_mixed : Addr} {od__law_mixed an__law_mixed : Option Addr} {sl__law_mixed : Array (Option Value)} {oc__law_mixed kV__law_mixed dc__law_mixed pm__law_mixed ct__law_mixed : Value} {cd__law_mixed : Value} {f__law_draw : Addr} {od__law_draw an__law_draw : Option Addr} {sl__law_draw : Array (Option Value)} {oc__law_draw kV__law_draw dc__law_draw pm__law_draw ct__law_draw : Value} {cd__law_draw : Value} {f__law_pick : Addr} {od__law_pick an__law_pick : Option Addr} {sl__law_pick : Array (Option Value)} {oc__law_pick kV__law_pick dc__law_pick pm__law_pick ct__law_pick : Value} {cd__law_pick : Value} {f__law_plain : Addr} {od__law_plain an__law_plain : Option Addr} {sl__law_plain : Array (Option Value)} {oc__law_plain kV__law_plain dc__law_plain pm__law_plain ct__law_plain : Value} {cd__law_plain : Value} {f__law_is : Addr} {od__law_is an__law_is : Option Addr} {sl__law_is : Array (Option Value)} {oc__law_is kV__law_is dc__law_is pm__law_is ct__law_is : Value} {cd__law_is : Value} {f__law_some_pattern : Addr} {od__law_some_pattern an__law_some_pattern : Option Addr} {sl__law_some_pattern : Array (Option Value)} {oc__law_some_pattern kV__law_some_pattern dc__law_some_pattern pm__law_some_pattern ct__law_some_pattern : Value} {cd__law_some_pattern : Value} {f__law_hollow : Addr} {od__law_hollow an__law_hollow : Option Addr} {sl__law_hollow : Array (Option Value)} {oc__law_hollow kV__law_hollow dc__law_hollow pm__law_hollow ct__law_hollow : Value} {cd__law_hollow : Value} {f__law_rest : Addr} {od__law_rest an__law_rest : Option Addr} {sl__law_rest : Array (Option Value)} {oc__law_rest kV__law_rest dc__law_rest pm__law_rest ct__law_rest : Value} {cd__law_rest : Value} {f__law_behind_item : Addr} {od__law_behind_item an__law_behind_item : Option Addr} {sl__law_behind_item : Array (Option Value)} {oc__law_behind_item kV__law_behind_item dc__law_behind_item pm__law_behind_item ct__law_behind_item : Value} {cd__law_behind_item : Value} {f__law_left : Addr} {od__law_left an__law_left : Option Addr} {sl__law_left : Array (Option Value)} {oc__law_left kV__law_left dc__law_left pm__law_left ct__law_left : Value} {f__law_items : Addr} {od__law_items an__law_items : Option Addr} {sl__law_items : Array (Option Value)} {oc__law_items kV__law_items dc__law_items pm__law_items ct__law_items : Value} {cd__law_items : Value} {f__law_numbered : Addr} {od__law_numbered an__law_numbered : Option Addr} {sl__law_numbered : Array (Option Value)} {oc__law_numbered kV__law_numbered dc__law_numbered pm__law_numbered ct__law_numbered : Value} {cd__law_numbered : Value} {f__law_takes : Addr} {od__law_takes an__law_takes : Option Addr} {sl__law_takes : Array (Option Value)} {oc__law_takes kV__law_takes dc__law_takes pm__law_takes ct__law_takes : Value} {cd__law_takes : Value} {f__law_goes : Addr} {od__law_goes an__law_goes : Option Addr} {sl__law_goes : Array (Option Value)} {oc__law_goes kV__law_goes dc__law_goes pm__law_goes ct__law_goes : Value} {cd__law_goes : Value} {f__law_deep : Addr} {od__law_deep an__law_deep : Option Addr} {sl__law_deep : Array (Option Value)} {oc__law_deep kV__law_deep dc__law_deep pm__law_deep ct__law_deep : Value} {cd__law_deep : Value} {f__law_due : Addr} {od__law_due an__law_due : Option Addr} {sl__law_due : Array (Option Value)} {oc__law_due kV__law_due dc__law_due pm__law_due ct__law_due : Value} {cd__law_due : Value} {f_law : Addr} {od_law an_law : Option Addr} {sl_law : Array (Option Value)} {oc_law kV_law dc_law pm_law ct_law : Value} {cd_law : Value} {t_MOST_ITEMS : Tok} {t_MOST_NESTED : Tok} {d_PARTS : Addr} {es_PARTS : Array DictEntry} {ep_PARTS : Nat} {t_PARTS_0 : Tok} {t_PARTS_1 : Tok} {t_PARTS_2 : Tok} {t_PARTS_3 : Tok} {t_PARTS_4 : Tok} {c1 P1 : Addr} {oc1 : Value} {od1 : Option Addr} {vs1 : Array Value} {sl1 : Array (Option Value)}
    (a_is_pattern_within : PySem.W.nsIn K mainGlobals "is_pattern_within" = some (some (.ref f_is_pattern_within)))
    (l_is_pattern_within : K.lookup f_is_pattern_within = some ⟨oc_is_pattern_within, od_is_pattern_within, .func (PySem.W.fnOf "is_pattern_within" "is_pattern_within" (defArgs (top 4)) (defBody (top 4)) (defScope (top 4)) .none kV_is_pattern_within dc_is_pattern_within pm_is_pattern_within an_is_pattern_within cd_is_pattern_within ct_is_pattern_within), sl_is_pattern_within⟩)
    (c_is_pattern_within : PySem.W.codeIn K cd_is_pattern_within "is_pattern_within" = true)
    (k_is_pattern_within : PySem.W.keepIn K (.ref f_is_pattern_within) = true)
    (a_is_pattern : PySem.W.nsIn K mainGlobals "is_pattern" = some (some (.ref f_is_pattern)))
    (l_is_pattern : K.lookup f_is_pattern = some ⟨oc_is_pattern, od_is_pattern, .func (PySem.W.fnOf "is_pattern" "is_pattern" (defArgs (top 5)) (defBody (top 5)) (defScope (top 5)) .none kV_is_pattern dc_is_pattern pm_is_pattern an_is_pattern cd_is_pattern ct_is_pattern), sl_is_pattern⟩)
    (c_is_pattern : PySem.W.codeIn K cd_is_pattern "is_pattern" = true)
    (k_is_pattern : PySem.W.keepIn K (.ref f_is_pattern) = true)
    (a_places_of : PySem.W.nsIn K mainGlobals "places_of" = some (some (.ref f_places_of)))
    (l_places_of : K.lookup f_places_of = some ⟨oc_places_of, od_places_of, .func (PySem.W.fnOf "places_of" "places_of" (defArgs (top 6)) (defBody (top 6)) (defScope (top 6)) .none kV_places_of dc_places_of pm_places_of an_places_of cd_places_of ct_places_of), sl_places_of⟩)
    (c_places_of : PySem.W.codeIn K cd_places_of "places_of" = true)
    (k_places_of : PySem.W.keepIn K (.ref f_places_of) = true)
    (a_joined_moves : PySem.W.nsIn K mainGlobals "joined_moves" = some (some (.ref f_joined_moves)))
    (l_joined_moves : K.lookup f_joined_moves = some ⟨oc_joined_moves, od_joined_moves, .func (PySem.W.fnOf "joined_moves" "joined_moves" (defArgs (top 7)) (defBody (top 7)) (defScope (top 7)) .none kV_joined_moves dc_joined_moves pm_joined_moves an_joined_moves cd_joined_moves ct_joined_moves), sl_joined_moves⟩)
    (c_joined_moves : PySem.W.codeIn K cd_joined_moves "joined_moves" = true)
    (k_joined_moves : PySem.W.keepIn K (.ref f_joined_moves) = true)
    (a_moves_from : PySem.W.nsIn K mainGlobals "moves_from" = some (some (.ref f_moves_from)))
    (l_moves_from : K.lookup f_moves_from = some ⟨oc_moves_from, od_moves_from, .func (PySem.W.fnOf "moves_from" "moves_from" (defArgs (top 8)) (defBody (top 8)) (defScope (top 8)) .none kV_moves_from dc_moves_from pm_moves_from an_moves_from cd_moves_from ct_moves_from), sl_moves_from⟩)
    (c_moves_from : PySem.W.codeIn K cd_moves_from "moves_from" = true)
    (k_moves_from : PySem.W.keepIn K (.ref f_moves_from) = true)
    (a_moves_of : PySem.W.nsIn K mainGlobals "moves_of" = some (some (.ref f_moves_of)))
    (l_moves_of : K.lookup f_moves_of = some ⟨oc_moves_of, od_moves_of, .func (PySem.W.fnOf "moves_of" "moves_of" (defArgs (top 9)) (defBody (top 9)) (defScope (top 9)) .none kV_moves_of dc_moves_of pm_moves_of an_moves_of cd_moves_of ct_moves_of), sl_moves_of⟩)
    (c_moves_of : PySem.W.codeIn K cd_moves_of "moves_of" = true)
    (k_moves_of : PySem.W.keepIn K (.ref f_moves_of) = true)
    (a__law_begun : PySem.W.nsIn K mainGlobals "_law_begun" = some (some (.ref f__law_begun)))
    (l__law_begun : K.lookup f__law_begun = some ⟨oc__law_begun, od__law_begun, .func (PySem.W.fnOf "_law_begun" "_law_begun" (defArgs (top 11)) (defBody (top 11)) (defScope (top 11)) .none kV__law_begun dc__law_begun pm__law_begun an__law_begun cd__law_begun ct__law_begun), sl__law_begun⟩)
    (c__law_begun : PySem.W.codeIn K cd__law_begun "_law_begun" = true)
    (k__law_begun : PySem.W.keepIn K (.ref f__law_begun) = true)
    (a__law_mixed : PySem.W.nsIn K mainGlobals "_law_mixed" = some (some (.ref f__law_mixed)))
    (l__law_mixed : K.lookup f__law_mixed = some ⟨oc__law_mixed, od__law_mixed, .func (PySem.W.fnOf "_law_mixed" "_law_mixed" (defArgs (top 12)) (defBody (top 12)) (defScope (top 12)) .none kV__law_mixed dc__law_mixed pm__law_mixed an__law_mixed cd__law_mixed ct__law_mixed), sl__law_mixed⟩)
    (c__law_mixed : PySem.W.codeIn K cd__law_mixed "_law_mixed" = true)
    (k__law_mixed : PySem.W.keepIn K (.ref f__law_mixed) = true)
    (a__law_draw : PySem.W.nsIn K mainGlobals "_law_draw" = some (some (.ref f__law_draw)))
    (l__law_draw : K.lookup f__law_draw = some ⟨oc__law_draw, od__law_draw, .func (PySem.W.fnOf "_law_draw" "_law_draw" (defArgs (top 13)) (defBody (top 13)) (defScope (top 13)) .none kV__law_draw dc__law_draw pm__law_draw an__law_draw cd__law_draw ct__law_draw), sl__law_draw⟩)
    (c__law_draw : PySem.W.codeIn K cd__law_draw "_law_draw" = true)
    (k__law_draw : PySem.W.keepIn K (.ref f__law_draw) = true)
    (a__law_pick : PySem.W.nsIn K mainGlobals "_law_pick" = some (some (.ref f__law_pick)))
    (l__law_pick : K.lookup f__law_pick = some ⟨oc__law_pick, od__law_pick, .func (PySem.W.fnOf "_law_pick" "_law_pick" (defArgs (top 14)) (defBody (top 14)) (defScope (top 14)) .none kV__law_pick dc__law_pick pm__law_pick an__law_pick cd__law_pick ct__law_pick), sl__law_pick⟩)
    (c__law_pick : PySem.W.codeIn K cd__law_pick "_law_pick" = true)
    (k__law_pick : PySem.W.keepIn K (.ref f__law_pick) = true)
    (a__law_plain : PySem.W.nsIn K mainGlobals "_law_plain" = some (some (.ref f__law_plain)))
    (l__law_plain : K.lookup f__law_plain = some ⟨oc__law_plain, od__law_plain, .func (PySem.W.fnOf "_law_plain" "_law_plain" (defArgs (top 15)) (defBody (top 15)) (defScope (top 15)) .none kV__law_plain dc__law_plain pm__law_plain an__law_plain cd__law_plain ct__law_plain), sl__law_plain⟩)
    (c__law_plain : PySem.W.codeIn K cd__law_plain "_law_plain" = true)
    (k__law_plain : PySem.W.keepIn K (.ref f__law_plain) = true)
    (a__law_is : PySem.W.nsIn K mainGlobals "_law_is" = some (some (.ref f__law_is)))
    (l__law_is : K.lookup f__law_is = some ⟨oc__law_is, od__law_is, .func (PySem.W.fnOf "_law_is" "_law_is" (defArgs (top 16)) (defBody (top 16)) (defScope (top 16)) .none kV__law_is dc__law_is pm__law_is an__law_is cd__law_is ct__law_is), sl__law_is⟩)
    (c__law_is : PySem.W.codeIn K cd__law_is "_law_is" = true)
    (k__law_is : PySem.W.keepIn K (.ref f__law_is) = true)
    (a__law_some_pattern : PySem.W.nsIn K mainGlobals "_law_some_pattern" = some (some (.ref f__law_some_pattern)))
    (l__law_some_pattern : K.lookup f__law_some_pattern = some ⟨oc__law_some_pattern, od__law_some_pattern, .func (PySem.W.fnOf "_law_some_pattern" "_law_some_pattern" (defArgs (top 17)) (defBody (top 17)) (defScope (top 17)) .none kV__law_some_pattern dc__law_some_pattern pm__law_some_pattern an__law_some_pattern cd__law_some_pattern ct__law_some_pattern), sl__law_some_pattern⟩)
    (c__law_some_pattern : PySem.W.codeIn K cd__law_some_pattern "_law_some_pattern" = true)
    (k__law_some_pattern : PySem.W.keepIn K (.ref f__law_some_pattern) = true)
    (a__law_hollow : PySem.W.nsIn K mainGlobals "_law_hollow" = some (some (.ref f__law_hollow)))
    (l__law_hollow : K.lookup f__law_hollow = some ⟨oc__law_hollow, od__law_hollow, .func (PySem.W.fnOf "_law_hollow" "_law_hollow" (defArgs (top 18)) (defBody (top 18)) (defScope (top 18)) .none kV__law_hollow dc__law_hollow pm__law_hollow an__law_hollow cd__law_hollow ct__law_hollow), sl__law_hollow⟩)
    (c__law_hollow : PySem.W.codeIn K cd__law_hollow "_law_hollow" = true)
    (k__law_hollow : PySem.W.keepIn K (.ref f__law_hollow) = true)
    (a__law_rest : PySem.W.nsIn K mainGlobals "_law_rest" = some (some (.ref f__law_rest)))
    (l__law_rest : K.lookup f__law_rest = some ⟨oc__law_rest, od__law_rest, .func (PySem.W.fnOf "_law_rest" "_law_rest" (defArgs (top 19)) (defBody (top 19)) (defScope (top 19)) .none kV__law_rest dc__law_rest pm__law_rest an__law_rest cd__law_rest ct__law_rest), sl__law_rest⟩)
    (c__law_rest : PySem.W.codeIn K cd__law_rest "_law_rest" = true)
    (k__law_rest : PySem.W.keepIn K (.ref f__law_rest) = true)
    (a__law_behind_item : PySem.W.nsIn K mainGlobals "_law_behind_item" = some (some (.ref f__law_behind_item)))
    (l__law_behind_item : K.lookup f__law_behind_item = some ⟨oc__law_behind_item, od__law_behind_item, .func (PySem.W.fnOf "_law_behind_item" "_law_behind_item" (defArgs (top 20)) (defBody (top 20)) (defScope (top 20)) .none kV__law_behind_item dc__law_behind_item pm__law_behind_item an__law_behind_item cd__law_behind_item ct__law_behind_item), sl__law_behind_item⟩)
    (c__law_behind_item : PySem.W.codeIn K cd__law_behind_item "_law_behind_item" = true)
    (k__law_behind_item : PySem.W.keepIn K (.ref f__law_behind_item) = true)
    (a__law_left : PySem.W.nsIn K mainGlobals "_law_left" = some (some (.ref f__law_left)))
    (l__law_left : K.lookup f__law_left = some ⟨oc__law_left, od__law_left, .func (PySem.W.fnOf "_law_left" "_law_left" (defArgs (top 21)) (defBody (top 21)) (defScope (top 21)) .none kV__law_left dc__law_left pm__law_left an__law_left (.ref c1) ct__law_left), sl__law_left⟩)
    (c__law_left : PySem.W.codeIn K (.ref c1) "_law_left" = true)
    (k__law_left : PySem.W.keepIn K (.ref f__law_left) = true)
    (a__law_items : PySem.W.nsIn K mainGlobals "_law_items" = some (some (.ref f__law_items)))
    (l__law_items : K.lookup f__law_items = some ⟨oc__law_items, od__law_items, .func (PySem.W.fnOf "_law_items" "_law_items" (defArgs (top 22)) (defBody (top 22)) (defScope (top 22)) .none kV__law_items dc__law_items pm__law_items an__law_items cd__law_items ct__law_items), sl__law_items⟩)
    (c__law_items : PySem.W.codeIn K cd__law_items "_law_items" = true)
    (k__law_items : PySem.W.keepIn K (.ref f__law_items) = true)
    (a__law_numbered : PySem.W.nsIn K mainGlobals "_law_numbered" = some (some (.ref f__law_numbered)))
    (l__law_numbered : K.lookup f__law_numbered = some ⟨oc__law_numbered, od__law_numbered, .func (PySem.W.fnOf "_law_numbered" "_law_numbered" (defArgs (top 23)) (defBody (top 23)) (defScope (top 23)) .none kV__law_numbered dc__law_numbered pm__law_numbered an__law_numbered cd__law_numbered ct__law_numbered), sl__law_numbered⟩)
    (c__law_numbered : PySem.W.codeIn K cd__law_numbered "_law_numbered" = true)
    (k__law_numbered : PySem.W.keepIn K (.ref f__law_numbered) = true)
    (a__law_takes : PySem.W.nsIn K mainGlobals "_law_takes" = some (some (.ref f__law_takes)))
    (l__law_takes : K.lookup f__law_takes = some ⟨oc__law_takes, od__law_takes, .func (PySem.W.fnOf "_law_takes" "_law_takes" (defArgs (top 24)) (defBody (top 24)) (defScope (top 24)) .none kV__law_takes dc__law_takes pm__law_takes an__law_takes cd__law_takes ct__law_takes), sl__law_takes⟩)
    (c__law_takes : PySem.W.codeIn K cd__law_takes "_law_takes" = true)
    (k__law_takes : PySem.W.keepIn K (.ref f__law_takes) = true)
    (a__law_goes : PySem.W.nsIn K mainGlobals "_law_goes" = some (some (.ref f__law_goes)))
    (l__law_goes : K.lookup f__law_goes = some ⟨oc__law_goes, od__law_goes, .func (PySem.W.fnOf "_law_goes" "_law_goes" (defArgs (top 25)) (defBody (top 25)) (defScope (top 25)) .none kV__law_goes dc__law_goes pm__law_goes an__law_goes cd__law_goes ct__law_goes), sl__law_goes⟩)
    (c__law_goes : PySem.W.codeIn K cd__law_goes "_law_goes" = true)
    (k__law_goes : PySem.W.keepIn K (.ref f__law_goes) = true)
    (a__law_deep : PySem.W.nsIn K mainGlobals "_law_deep" = some (some (.ref f__law_deep)))
    (l__law_deep : K.lookup f__law_deep = some ⟨oc__law_deep, od__law_deep, .func (PySem.W.fnOf "_law_deep" "_law_deep" (defArgs (top 26)) (defBody (top 26)) (defScope (top 26)) .none kV__law_deep dc__law_deep pm__law_deep an__law_deep cd__law_deep ct__law_deep), sl__law_deep⟩)
    (c__law_deep : PySem.W.codeIn K cd__law_deep "_law_deep" = true)
    (k__law_deep : PySem.W.keepIn K (.ref f__law_deep) = true)
    (a__law_due : PySem.W.nsIn K mainGlobals "_law_due" = some (some (.ref f__law_due)))
    (l__law_due : K.lookup f__law_due = some ⟨oc__law_due, od__law_due, .func (PySem.W.fnOf "_law_due" "_law_due" (defArgs (top 27)) (defBody (top 27)) (defScope (top 27)) .none kV__law_due dc__law_due pm__law_due an__law_due cd__law_due ct__law_due), sl__law_due⟩)
    (c__law_due : PySem.W.codeIn K cd__law_due "_law_due" = true)
    (k__law_due : PySem.W.keepIn K (.ref f__law_due) = true)
    (a_law : PySem.W.nsIn K mainGlobals "law" = some (some (.ref f_law)))
    (l_law : K.lookup f_law = some ⟨oc_law, od_law, .func (PySem.W.fnOf "law" "law" (defArgs (top 28)) (defBody (top 28)) (defScope (top 28)) .none kV_law dc_law pm_law an_law cd_law ct_law), sl_law⟩)
    (c_law : PySem.W.codeIn K cd_law "law" = true)
    (k_law : PySem.W.keepIn K (.ref f_law) = true)
    (n_abs : PySem.W.nsIn K mainGlobals "abs" = some none)
    (n_all : PySem.W.nsIn K mainGlobals "all" = some none)
    (n_dict : PySem.W.nsIn K mainGlobals "dict" = some none)
    (n_int : PySem.W.nsIn K mainGlobals "int" = some none)
    (n_isinstance : PySem.W.nsIn K mainGlobals "isinstance" = some none)
    (n_len : PySem.W.nsIn K mainGlobals "len" = some none)
    (n_list : PySem.W.nsIn K mainGlobals "list" = some none)
    (n_max : PySem.W.nsIn K mainGlobals "max" = some none)
    (n_min : PySem.W.nsIn K mainGlobals "min" = some none)
    (n_range : PySem.W.nsIn K mainGlobals "range" = some none)
    (n_repr : PySem.W.nsIn K mainGlobals "repr" = some none)
    (n_set : PySem.W.nsIn K mainGlobals "set" = some none)
    (n_sorted : PySem.W.nsIn K mainGlobals "sorted" = some none)
    (n_str : PySem.W.nsIn K mainGlobals "str" = some none)
    (n_tuple : PySem.W.nsIn K mainGlobals "tuple" = some none)
    (n_zip : PySem.W.nsIn K mainGlobals "zip" = some none)
    (x_MOST_ITEMS : PySem.W.nsIn K mainGlobals "MOST_ITEMS" = some (some (.int 8 t_MOST_ITEMS)))
    (x_MOST_NESTED : PySem.W.nsIn K mainGlobals "MOST_NESTED" = some (some (.int 6 t_MOST_NESTED)))
    (m_PARTS : PySem.W.nsIn K mainGlobals "PARTS" = some (some (.ref d_PARTS)))
    (o_PARTS : K.lookup d_PARTS = some ⟨.type "dict", none, .dict es_PARTS ep_PARTS, #[]⟩)
    (y_PARTS : PySem.W.KeysLit w.params es_PARTS.toList)
    (s_PARTS : (d_PARTS == sysModules) = false)
    (e_PARTS_0 : PySem.W.nsIn K d_PARTS "none" = some (some (.int 1 t_PARTS_0)))
    (e_PARTS_1 : PySem.W.nsIn K d_PARTS "item" = some (some (.int 2 t_PARTS_1)))
    (e_PARTS_2 : PySem.W.nsIn K d_PARTS "row" = some (some (.int 3 t_PARTS_2)))
    (e_PARTS_3 : PySem.W.nsIn K d_PARTS "either" = some (some (.int 3 t_PARTS_3)))
    (e_PARTS_4 : PySem.W.nsIn K d_PARTS "many" = some (some (.int 2 t_PARTS_4)))
    (e_PARTS_5 : PySem.W.nsIn K d_PARTS "some" = some none)
    (lc1 : K.lookup c1 = some ⟨oc1, od1, .fields vs1, sl1⟩)
    (v11 : (vs1[11]? : Option Value) = some (.ref P1))
    (tno : K.lookup P1 = none) :
    ∃ (fd : FuncData) (cs : List (Addr × Addr × Str)), (∀ p ∈ cs, h.get? p.2.1 = some { cls := .none, data := .fields #[] }) ∧ (∀ p ∈ cs, K.lookup p.2.1 = none) ∧ (∀ p ∈ cs, PySem.W.CodeHd h p.1 p.2.1) ∧ (∀ (s : Shared) (u : Value), BindsTo s fd ⟨[u], []⟩ [("script", u)]) ∧
      ∀ base : Heap, K.In base → base.Ns mainGlobals mg → (∀ p ∈ cs, LamX.TabB base mg p.1 p.2.1) → FnM (cs.map fun p => p.2) l.prog w K mg base (k + 2) fa fd ["script"] (tab L k .Flaw) := by
  have efa : f_law = fa := by
    cases hfa.symm.trans (PySem.W.mg_of inK G a_law)
    rfl
  subst efa
  have U : Txt K w mg (adOf f_is_pattern_within f_is_pattern f_places_of f_joined_moves f_moves_from f_moves_of f__law_begun f__law_mixed f__law_draw f__law_pick f__law_plain f__law_is f__law_some_pattern f__law_hollow f__law_rest f__law_behind_item f__law_left f__law_items f__law_numbered f__law_takes f__law_goes f__law_deep f__law_due f_law) (fdOf (PySem.W.fnOf "is_pattern_within" "is_pattern_within" (defArgs (top 4)) (defBody (top 4)) (defScope (top 4)) .none kV_is_pattern_within dc_is_pattern_within pm_is_pattern_within an_is_pattern_within cd_is_pattern_within ct_is_pattern_within) (PySem.W.fnOf "is_pattern" "is_pattern" (defArgs (top 5)) (defBody (top 5)) (defScope (top 5)) .none kV_is_pattern dc_is_pattern pm_is_pattern an_is_pattern cd_is_pattern ct_is_pattern) (PySem.W.fnOf "places_of" "places_of" (defArgs (top 6)) (defBody (top 6)) (defScope (top 6)) .none kV_places_of dc_places_of pm_places_of an_places_of cd_places_of ct_places_of) (PySem.W.fnOf "joined_moves" "joined_moves" (defArgs (top 7)) (defBody (top 7)) (defScope (top 7)) .none kV_joined_moves dc_joined_moves pm_joined_moves an_joined_moves cd_joined_moves ct_joined_moves) (PySem.W.fnOf "moves_from" "moves_from" (defArgs (top 8)) (defBody (top 8)) (defScope (top 8)) .none kV_moves_from dc_moves_from pm_moves_from an_moves_from cd_moves_from ct_moves_from) (PySem.W.fnOf "moves_of" "moves_of" (defArgs (top 9)) (defBody (top 9)) (defScope (top 9)) .none kV_moves_of dc_moves_of pm_moves_of an_moves_of cd_moves_of ct_moves_of) (PySem.W.fnOf "_law_begun" "_law_begun" (defArgs (top 11)) (defBody (top 11)) (defScope (top 11)) .none kV__law_begun dc__law_begun pm__law_begun an__law_begun cd__law_begun ct__law_begun) (PySem.W.fnOf "_law_mixed" "_law_mixed" (defArgs (top 12)) (defBody (top 12)) (defScope (top 12)) .none kV__law_mixed dc__law_mixed pm__law_mixed an__law_mixed cd__law_mixed ct__law_mixed) (PySem.W.fnOf "_law_draw" "_law_draw" (defArgs (top 13)) (defBody (top 13)) (defScope (top 13)) .none kV__law_draw dc__law_draw pm__law_draw an__law_draw cd__law_draw ct__law_draw) (PySem.W.fnOf "_law_pick" "_law_pick" (defArgs (top 14)) (defBody (top 14)) (defScope (top 14)) .none kV__law_pick dc__law_pick pm__law_pick an__law_pick cd__law_pick ct__law_pick) (PySem.W.fnOf "_law_plain" "_law_plain" (defArgs (top 15)) (defBody (top 15)) (defScope (top 15)) .none kV__law_plain dc__law_plain pm__law_plain an__law_plain cd__law_plain ct__law_plain) (PySem.W.fnOf "_law_is" "_law_is" (defArgs (top 16)) (defBody (top 16)) (defScope (top 16)) .none kV__law_is dc__law_is pm__law_is an__law_is cd__law_is ct__law_is) (PySem.W.fnOf "_law_some_pattern" "_law_some_pattern" (defArgs (top 17)) (defBody (top 17)) (defScope (top 17)) .none kV__law_some_pattern dc__law_some_pattern pm__law_some_pattern an__law_some_pattern cd__law_some_pattern ct__law_some_pattern) (PySem.W.fnOf "_law_hollow" "_law_hollow" (defArgs (top 18)) (defBody (top 18)) (defScope (top 18)) .none kV__law_hollow dc__law_hollow pm__law_hollow an__law_hollow cd__law_hollow ct__law_hollow) (PySem.W.fnOf "_law_rest" "_law_rest" (defArgs (top 19)) (defBody (top 19)) (defScope (top 19)) .none kV__law_rest dc__law_rest pm__law_rest an__law_rest cd__law_rest ct__law_rest) (PySem.W.fnOf "_law_behind_item" "_law_behind_item" (defArgs (top 20)) (defBody (top 20)) (defScope (top 20)) .none kV__law_behind_item dc__law_behind_item pm__law_behind_item an__law_behind_item cd__law_behind_item ct__law_behind_item) (PySem.W.fnOf "_law_left" "_law_left" (defArgs (top 21)) (defBody (top 21)) (defScope (top 21)) .none kV__law_left dc__law_left pm__law_left an__law_left (.ref c1) ct__law_left) (PySem.W.fnOf "_law_items" "_law_items" (defArgs (top 22)) (defBody (top 22)) (defScope (top 22)) .none kV__law_items dc__law_items pm__law_items an__law_items cd__law_items ct__law_items) (PySem.W.fnOf "_law_numbered" "_law_numbered" (defArgs (top 23)) (defBody (top 23)) (defScope (top 23)) .none kV__law_numbered dc__law_numbered pm__law_numbered an__law_numbered cd__law_numbered ct__law_numbered) (PySem.W.fnOf "_law_takes" "_law_takes" (defArgs (top 24)) (defBody (top 24)) (defScope (top 24)) .none kV__law_takes dc__law_takes pm__law_takes an__law_takes cd__law_takes ct__law_takes) (PySem.W.fnOf "_law_goes" "_law_goes" (defArgs (top 25)) (defBody (top 25)) (defScope (top 25)) .none kV__law_goes dc__law_goes pm__law_goes an__law_goes cd__law_goes ct__law_goes) (PySem.W.fnOf "_law_deep" "_law_deep" (defArgs (top 26)) (defBody (top 26)) (defScope (top 26)) .none kV__law_deep dc__law_deep pm__law_deep an__law_deep cd__law_deep ct__law_deep) (PySem.W.fnOf "_law_due" "_law_due" (defArgs (top 27)) (defBody (top 27)) (defScope (top 27)) .none kV__law_due dc__law_due pm__law_due an__law_due cd__law_due ct__law_due) (PySem.W.fnOf "law" "law" (defArgs (top 28)) (defBody (top 28)) (defScope (top 28)) .none kV_law dc_law pm_law an_law cd_law ct_law)) := {
    fn := fun f => match f with
      | .Fis_pattern_within => fun_mk (st := top 4) l_is_pattern_within c_is_pattern_within k_is_pattern_within
      | .Fis_pattern => fun_mk (st := top 5) l_is_pattern c_is_pattern k_is_pattern
      | .Fplaces_of => fun_mk (st := top 6) l_places_of c_places_of k_places_of
      | .Fjoined_moves => fun_mk (st := top 7) l_joined_moves c_joined_moves k_joined_moves
      | .Fmoves_from => fun_mk (st := top 8) l_moves_from c_moves_from k_moves_from
      | .Fmoves_of => fun_mk (st := top 9) l_moves_of c_moves_of k_moves_of
      | .F_law_begun => fun_mk (st := top 11) l__law_begun c__law_begun k__law_begun
      | .F_law_mixed => fun_mk (st := top 12) l__law_mixed c__law_mixed k__law_mixed
      | .F_law_draw => fun_mk (st := top 13) l__law_draw c__law_draw k__law_draw
      | .F_law_pick => fun_mk (st := top 14) l__law_pick c__law_pick k__law_pick
      | .F_law_plain => fun_mk (st := top 15) l__law_plain c__law_plain k__law_plain
      | .F_law_is => fun_mk (st := top 16) l__law_is c__law_is k__law_is
      | .F_law_some_pattern => fun_mk (st := top 17) l__law_some_pattern c__law_some_pattern k__law_some_pattern
      | .F_law_hollow => fun_mk (st := top 18) l__law_hollow c__law_hollow k__law_hollow
      | .F_law_rest => fun_mk (st := top 19) l__law_rest c__law_rest k__law_rest
      | .F_law_behind_item => fun_mk (st := top 20) l__law_behind_item c__law_behind_item k__law_behind_item
      | .F_law_left => fun_mk (st := top 21) l__law_left c__law_left k__law_left
      | .F_law_items => fun_mk (st := top 22) l__law_items c__law_items k__law_items
      | .F_law_numbered => fun_mk (st := top 23) l__law_numbered c__law_numbered k__law_numbered
      | .F_law_takes => fun_mk (st := top 24) l__law_takes c__law_takes k__law_takes
      | .F_law_goes => fun_mk (st := top 25) l__law_goes c__law_goes k__law_goes
      | .F_law_deep => fun_mk (st := top 26) l__law_deep c__law_deep k__law_deep
      | .F_law_due => fun_mk (st := top 27) l__law_due c__law_due k__law_due
      | .Flaw => fun_mk (st := top 28) l_law c_law k_law
    mgf := fun f => match f with
      | .Fis_pattern_within => PySem.W.mg_of inK G a_is_pattern_within
      | .Fis_pattern => PySem.W.mg_of inK G a_is_pattern
      | .Fplaces_of => PySem.W.mg_of inK G a_places_of
      | .Fjoined_moves => PySem.W.mg_of inK G a_joined_moves
      | .Fmoves_from => PySem.W.mg_of inK G a_moves_from
      | .Fmoves_of => PySem.W.mg_of inK G a_moves_of
      | .F_law_begun => PySem.W.mg_of inK G a__law_begun
      | .F_law_mixed => PySem.W.mg_of inK G a__law_mixed
      | .F_law_draw => PySem.W.mg_of inK G a__law_draw
      | .F_law_pick => PySem.W.mg_of inK G a__law_pick
      | .F_law_plain => PySem.W.mg_of inK G a__law_plain
      | .F_law_is => PySem.W.mg_of inK G a__law_is
      | .F_law_some_pattern => PySem.W.mg_of inK G a__law_some_pattern
      | .F_law_hollow => PySem.W.mg_of inK G a__law_hollow
      | .F_law_rest => PySem.W.mg_of inK G a__law_rest
      | .F_law_behind_item => PySem.W.mg_of inK G a__law_behind_item
      | .F_law_left => PySem.W.mg_of inK G a__law_left
      | .F_law_items => PySem.W.mg_of inK G a__law_items
      | .F_law_numbered => PySem.W.mg_of inK G a__law_numbered
      | .F_law_takes => PySem.W.mg_of inK G a__law_takes
      | .F_law_goes => PySem.W.mg_of inK G a__law_goes
      | .F_law_deep => PySem.W.mg_of inK G a__law_deep
      | .F_law_due => PySem.W.mg_of inK G a__law_due
      | .Flaw => PySem.W.mg_of inK G a_law
    bind := fun f => match f with
      | .Fis_pattern_within => (fun_mk (st := top 4) l_is_pattern_within c_is_pattern_within k_is_pattern_within).binds fun _ _ _ _ _ _ us hl => match us, hl with | [_, _, _], _ => rfl
      | .Fis_pattern => (fun_mk (st := top 5) l_is_pattern c_is_pattern k_is_pattern).binds fun _ _ _ _ _ _ us hl => match us, hl with | [_, _], _ => rfl
      | .Fplaces_of => (fun_mk (st := top 6) l_places_of c_places_of k_places_of).binds fun _ _ _ _ _ _ us hl => match us, hl with | [_], _ => rfl
      | .Fjoined_moves => (fun_mk (st := top 7) l_joined_moves c_joined_moves k_joined_moves).binds fun _ _ _ _ _ _ us hl => match us, hl with | [_, _, _], _ => rfl
      | .Fmoves_from => (fun_mk (st := top 8) l_moves_from c_moves_from k_moves_from).binds fun _ _ _ _ _ _ us hl => match us, hl with | [_, _], _ => rfl
      | .Fmoves_of => (fun_mk (st := top 9) l_moves_of c_moves_of k_moves_of).binds fun _ _ _ _ _ _ us hl => match us, hl with | [_], _ => rfl
      | .F_law_begun => (fun_mk (st := top 11) l__law_begun c__law_begun k__law_begun).binds fun _ _ _ _ _ _ us hl => match us, hl with | [_], _ => rfl
      | .F_law_mixed => (fun_mk (st := top 12) l__law_mixed c__law_mixed k__law_mixed).binds fun _ _ _ _ _ _ us hl => match us, hl with | [_], _ => rfl
      | .F_law_draw => (fun_mk (st := top 13) l__law_draw c__law_draw k__law_draw).binds fun _ _ _ _ _ _ us hl => match us, hl with | [_, _], _ => rfl
      | .F_law_pick => (fun_mk (st := top 14) l__law_pick c__law_pick k__law_pick).binds fun _ _ _ _ _ _ us hl => match us, hl with | [_, _], _ => rfl
      | .F_law_plain => (fun_mk (st := top 15) l__law_plain c__law_plain k__law_plain).binds fun _ _ _ _ _ _ us hl => match us, hl with | [_], _ => rfl
      | .F_law_is => (fun_mk (st := top 16) l__law_is c__law_is k__law_is).binds fun _ _ _ _ _ _ us hl => match us, hl with | [_, _], _ => rfl
      | .F_law_some_pattern => (fun_mk (st := top 17) l__law_some_pattern c__law_some_pattern k__law_some_pattern).binds fun _ _ _ _ _ _ us hl => match us, hl with | [_, _, _], _ => rfl
      | .F_law_hollow => (fun_mk (st := top 18) l__law_hollow c__law_hollow k__law_hollow).binds fun _ _ _ _ _ _ us hl => match us, hl with | [_], _ => rfl
      | .F_law_rest => (fun_mk (st := top 19) l__law_rest c__law_rest k__law_rest).binds fun _ _ _ _ _ _ us hl => match us, hl with | [_, _], _ => rfl
      | .F_law_behind_item => (fun_mk (st := top 20) l__law_behind_item c__law_behind_item k__law_behind_item).binds fun _ _ _ _ _ _ us hl => match us, hl with | [_, _], _ => rfl
      | .F_law_left => (fun_mk (st := top 21) l__law_left c__law_left k__law_left).binds fun _ _ _ _ _ _ us hl => match us, hl with | [_, _], _ => rfl
      | .F_law_items => (fun_mk (st := top 22) l__law_items c__law_items k__law_items).binds fun _ _ _ _ _ _ us hl => match us, hl with | [_], _ => rfl
      | .F_law_numbered => (fun_mk (st := top 23) l__law_numbered c__law_numbered k__law_numbered).binds fun _ _ _ _ _ _ us hl => match us, hl with | [_, _], _ => rfl
      | .F_law_takes => (fun_mk (st := top 24) l__law_takes c__law_takes k__law_takes).binds fun _ _ _ _ _ _ us hl => match us, hl with | [_, _], _ => rfl
      | .F_law_goes => (fun_mk (st := top 25) l__law_goes c__law_goes k__law_goes).binds fun _ _ _ _ _ _ us hl => match us, hl with | [_, _], _ => rfl
      | .F_law_deep => (fun_mk (st := top 26) l__law_deep c__law_deep k__law_deep).binds fun _ _ _ _ _ _ us hl => match us, hl with | [_], _ => rfl
      | .F_law_due => (fun_mk (st := top 27) l__law_due c__law_due k__law_due).binds fun _ _ _ _ _ _ us hl => match us, hl with | [_], _ => rfl
      | .Flaw => (fun_mk (st := top 28) l_law c_law k_law).binds fun _ _ _ _ _ _ us hl => match us, hl with | [_], _ => rfl
    n_abs := PySem.W.mg_none_of inK G n_abs
    n_all := PySem.W.mg_none_of inK G n_all
    n_dict := PySem.W.mg_none_of inK G n_dict
    n_int := PySem.W.mg_none_of inK G n_int
    n_isinstance := PySem.W.mg_none_of inK G n_isinstance
    n_len := PySem.W.mg_none_of inK G n_len
    n_list := PySem.W.mg_none_of inK G n_list
    n_max := PySem.W.mg_none_of inK G n_max
    n_min := PySem.W.mg_none_of inK G n_min
    n_range := PySem.W.mg_none_of inK G n_range
    n_repr := PySem.W.mg_none_of inK G n_repr
    n_set := PySem.W.mg_none_of inK G n_set
    n_sorted := PySem.W.mg_none_of inK G n_sorted
    n_str := PySem.W.mg_none_of inK G n_str
    n_tuple := PySem.W.mg_none_of inK G n_tuple
    n_zip := PySem.W.mg_none_of inK G n_zip
    c_MOST_ITEMS := ⟨_, PySem.W.mg_of inK G x_MOST_ITEMS⟩
    c_MOST_NESTED := ⟨_, PySem.W.mg_of inK G x_MOST_NESTED⟩
    kw_is_pattern := fun s us hl => match us, hl with | [_, _], _ => .of_eq rfl
    kw_moves_of := fun s us hl => match us, hl with | [_], _ => .of_eq rfl
  }
  have U2 : Kds K w mg d_PARTS := {
    kd_PARTS := ⟨_, _, ⟨o_PARTS, y_PARTS, s_PARTS⟩⟩
    kn_PARTS := fun p hp => by
      simp only [kn_PARTS, List.mem_cons, List.not_mem_nil, or_false] at hp
      rcases hp with rfl | rfl | rfl | rfl | rfl | rfl
      · exact ⟨_, .int 1, e_PARTS_0, ⟨_, rfl⟩, std_int⟩
      · exact ⟨_, .int 2, e_PARTS_1, ⟨_, rfl⟩, std_int⟩
      · exact ⟨_, .int 3, e_PARTS_2, ⟨_, rfl⟩, std_int⟩
      · exact ⟨_, .int 3, e_PARTS_3, ⟨_, rfl⟩, std_int⟩
      · exact ⟨_, .int 2, e_PARTS_4, ⟨_, rfl⟩, std_int⟩
      · exact e_PARTS_5
    mg_PARTS := PySem.W.mg_of inK G m_PARTS
    triv := trivial
  }
  have tab1 : PySem.W.tabIn K "_law_left" = some (c1, P1) := by
    unfold PySem.W.tabIn
    simp only [a__law_left, l__law_left, lc1, v11]
  obtain ⟨h1, h2⟩ := ft c1 P1 tab1
  have V : Lam K (adOf f_is_pattern_within f_is_pattern f_places_of f_joined_moves f_moves_from f_moves_of f__law_begun f__law_mixed f__law_draw f__law_pick f__law_plain f__law_is f__law_some_pattern f__law_hollow f__law_rest f__law_behind_item f__law_left f__law_items f__law_numbered f__law_takes f__law_goes f__law_deep f__law_due f_law) (fdOf (PySem.W.fnOf "is_pattern_within" "is_pattern_within" (defArgs (top 4)) (defBody (top 4)) (defScope (top 4)) .none kV_is_pattern_within dc_is_pattern_within pm_is_pattern_within an_is_pattern_within cd_is_pattern_within ct_is_pattern_within) (PySem.W.fnOf "is_pattern" "is_pattern" (defArgs (top 5)) (defBody (top 5)) (defScope (top 5)) .none kV_is_pattern dc_is_pattern pm_is_pattern an_is_pattern cd_is_pattern ct_is_pattern) (PySem.W.fnOf "places_of" "places_of" (defArgs (top 6)) (defBody (top 6)) (defScope (top 6)) .none kV_places_of dc_places_of pm_places_of an_places_of cd_places_of ct_places_of) (PySem.W.fnOf "joined_moves" "joined_moves" (defArgs (top 7)) (defBody (top 7)) (defScope (top 7)) .none kV_joined_moves dc_joined_moves pm_joined_moves an_joined_moves cd_joined_moves ct_joined_moves) (PySem.W.fnOf "moves_from" "moves_from" (defArgs (top 8)) (defBody (top 8)) (defScope (top 8)) .none kV_moves_from dc_moves_from pm_moves_from an_moves_from cd_moves_from ct_moves_from) (PySem.W.fnOf "moves_of" "moves_of" (defArgs (top 9)) (defBody (top 9)) (defScope (top 9)) .none kV_moves_of dc_moves_of pm_moves_of an_moves_of cd_moves_of ct_moves_of) (PySem.W.fnOf "_law_begun" "_law_begun" (defArgs (top 11)) (defBody (top 11)) (defScope (top 11)) .none kV__law_begun dc__law_begun pm__law_begun an__law_begun cd__law_begun ct__law_begun) (PySem.W.fnOf "_law_mixed" "_law_mixed" (defArgs (top 12)) (defBody (top 12)) (defScope (top 12)) .none kV__law_mixed dc__law_mixed pm__law_mixed an__law_mixed cd__law_mixed ct__law_mixed) (PySem.W.fnOf "_law_draw" "_law_draw" (defArgs (top 13)) (defBody (top 13)) (defScope (top 13)) .none kV__law_draw dc__law_draw pm__law_draw an__law_draw cd__law_draw ct__law_draw) (PySem.W.fnOf "_law_pick" "_law_pick" (defArgs (top 14)) (defBody (top 14)) (defScope (top 14)) .none kV__law_pick dc__law_pick pm__law_pick an__law_pick cd__law_pick ct__law_pick) (PySem.W.fnOf "_law_plain" "_law_plain" (defArgs (top 15)) (defBody (top 15)) (defScope (top 15)) .none kV__law_plain dc__law_plain pm__law_plain an__law_plain cd__law_plain ct__law_plain) (PySem.W.fnOf "_law_is" "_law_is" (defArgs (top 16)) (defBody (top 16)) (defScope (top 16)) .none kV__law_is dc__law_is pm__law_is an__law_is cd__law_is ct__law_is) (PySem.W.fnOf "_law_some_pattern" "_law_some_pattern" (defArgs (top 17)) (defBody (top 17)) (defScope (top 17)) .none kV__law_some_pattern dc__law_some_pattern pm__law_some_pattern an__law_some_pattern cd__law_some_pattern ct__law_some_pattern) (PySem.W.fnOf "_law_hollow" "_law_hollow" (defArgs (top 18)) (defBody (top 18)) (defScope (top 18)) .none kV__law_hollow dc__law_hollow pm__law_hollow an__law_hollow cd__law_hollow ct__law_hollow) (PySem.W.fnOf "_law_rest" "_law_rest" (defArgs (top 19)) (defBody (top 19)) (defScope (top 19)) .none kV__law_rest dc__law_rest pm__law_rest an__law_rest cd__law_rest ct__law_rest) (PySem.W.fnOf "_law_behind_item" "_law_behind_item" (defArgs (top 20)) (defBody (top 20)) (defScope (top 20)) .none kV__law_behind_item dc__law_behind_item pm__law_behind_item an__law_behind_item cd__law_behind_item ct__law_behind_item) (PySem.W.fnOf "_law_left" "_law_left" (defArgs (top 21)) (defBody (top 21)) (defScope (top 21)) .none kV__law_left dc__law_left pm__law_left an__law_left (.ref c1) ct__law_left) (PySem.W.fnOf "_law_items" "_law_items" (defArgs (top 22)) (defBody (top 22)) (defScope (top 22)) .none kV__law_items dc__law_items pm__law_items an__law_items cd__law_items ct__law_items) (PySem.W.fnOf "_law_numbered" "_law_numbered" (defArgs (top 23)) (defBody (top 23)) (defScope (top 23)) .none kV__law_numbered dc__law_numbered pm__law_numbered an__law_numbered cd__law_numbered ct__law_numbered) (PySem.W.fnOf "_law_takes" "_law_takes" (defArgs (top 24)) (defBody (top 24)) (defScope (top 24)) .none kV__law_takes dc__law_takes pm__law_takes an__law_takes cd__law_takes ct__law_takes) (PySem.W.fnOf "_law_goes" "_law_goes" (defArgs (top 25)) (defBody (top 25)) (defScope (top 25)) .none kV__law_goes dc__law_goes pm__law_goes an__law_goes cd__law_goes ct__law_goes) (PySem.W.fnOf "_law_deep" "_law_deep" (defArgs (top 26)) (defBody (top 26)) (defScope (top 26)) .none kV__law_deep dc__law_deep pm__law_deep an__law_deep cd__law_deep ct__law_deep) (PySem.W.fnOf "_law_due" "_law_due" (defArgs (top 27)) (defBody (top 27)) (defScope (top 27)) .none kV__law_due dc__law_due pm__law_due an__law_due cd__law_due ct__law_due) (PySem.W.fnOf "law" "law" (defArgs (top 28)) (defBody (top 28)) (defScope (top 28)) .none kV_law dc_law pm_law an_law cd_law ct_law)) c1 := ⟨⟨_, _, _, _, _, _, _, _, rfl, l__law_left, c__law_left⟩⟩
  refine ⟨(PySem.W.fnOf "law" "law" (defArgs (top 28)) (defBody (top 28)) (defScope (top 28)) .none kV_law dc_law pm_law an_law cd_law ct_law), [(c1, P1, "_law_left.<locals>.<lambda>")], fun p hp => ?_, fun p hp => ?_, fun p hp => ?_, fun s v => .of_eq rfl, fun base _ _ tbs => ?_⟩
  · rw [List.mem_singleton] at hp; subst hp; exact h2
  · rw [List.mem_singleton] at hp; subst hp; exact tno
  · rw [List.mem_singleton] at hp; subst hp; exact h1
  · exact all_ok U U2 V (tbs _ (List.mem_singleton.mpr rfl)) (List.mem_singleton.mpr rfl) (fun p hp _ => by have e := List.mem_singleton.mp hp; rw [e]) k .Flaw
end K35


namespace K35
open PySem Mx

/-- patterns over names -/
inductive Pat (α : Type) where
  | none | item (a : α) | row (p q : Pat α) | either (p q : Pat α) | many (p : Pat α)
  deriving DecidableEq
namespace Pat
variable {α : Type}
def deep : Pat α → Nat
  | .none => 1
  | .item _ => 1
  | .row p q => 1 + max p.deep q.deep
  | .either p q => 1 + max p.deep q.deep
  | .many p => 1 + p.deep
def items : Pat α → List α
  | .none => []
  | .item a => [a]
  | .row p q => p.items ++ q.items
  | .either p q => p.items ++ q.items
  | .many p => p.items
def toD (f : α → Str) : Pat α → D
  | .none => .tup [.str "none"]
  | .item a => .tup [.str "item", .str (f a)]
  | .row p q => .tup [.str "row", p.toD f, q.toD f]
  | .either p q => .tup [.str "either", p.toD f, q.toD f]
  | .many p => .tup [.str "many", p.toD f]
end Pat
/-- laps of a loop at most -/
def L0 : Nat := 1000000
def tb (k : Nat) : Fn → List D → M D := tab L0 k
theorem t_b_is_pattern_within (k : Nat) : tb (k + 1) .Fis_pattern_within = fnD 3 4 (b_is_pattern_within L0 (tb k)) := by unfold tb; rw [tab]
theorem t_b_is_pattern (k : Nat) : tb (k + 1) .Fis_pattern = fnD 2 2 (b_is_pattern L0 (tb k)) := by unfold tb; rw [tab]
theorem t_b_places_of (k : Nat) : tb (k + 1) .Fplaces_of = fnD 1 3 (b_places_of L0 (tb k)) := by unfold tb; rw [tab]
theorem t_b_joined_moves (k : Nat) : tb (k + 1) .Fjoined_moves = fnD 3 13 (b_joined_moves L0 (tb k)) := by unfold tb; rw [tab]
theorem t_b_moves_from (k : Nat) : tb (k + 1) .Fmoves_from = fnD 2 6 (b_moves_from L0 (tb k)) := by unfold tb; rw [tab]
theorem t_b_moves_of (k : Nat) : tb (k + 1) .Fmoves_of = fnD 1 7 (b_moves_of L0 (tb k)) := by unfold tb; rw [tab]
theorem t_b__law_begun (k : Nat) : tb (k + 1) .F_law_begun = fnD 1 3 (b__law_begun L0 (tb k)) := by unfold tb; rw [tab]
theorem t_b__law_mixed (k : Nat) : tb (k + 1) .F_law_mixed = fnD 1 6 (b__law_mixed L0 (tb k)) := by unfold tb; rw [tab]
theorem t_b__law_draw (k : Nat) : tb (k + 1) .F_law_draw = fnD 2 3 (b__law_draw L0 (tb k)) := by unfold tb; rw [tab]
theorem t_b__law_pick (k : Nat) : tb (k + 1) .F_law_pick = fnD 2 2 (b__law_pick L0 (tb k)) := by unfold tb; rw [tab]
theorem t_b__law_plain (k : Nat) : tb (k + 1) .F_law_plain = fnD 1 2 (b__law_plain L0 (tb k)) := by unfold tb; rw [tab]
theorem t_b__law_is (k : Nat) : tb (k + 1) .F_law_is = fnD 2 2 (b__law_is L0 (tb k)) := by unfold tb; rw [tab]
theorem t_b__law_some_pattern (k : Nat) : tb (k + 1) .F_law_some_pattern = fnD 3 4 (b__law_some_pattern L0 (tb k)) := by unfold tb; rw [tab]
theorem t_b__law_hollow (k : Nat) : tb (k + 1) .F_law_hollow = fnD 1 3 (b__law_hollow L0 (tb k)) := by unfold tb; rw [tab]
theorem t_b__law_rest (k : Nat) : tb (k + 1) .F_law_rest = fnD 2 2 (b__law_rest L0 (tb k)) := by unfold tb; rw [tab]
theorem t_b__law_behind_item (k : Nat) : tb (k + 1) .F_law_behind_item = fnD 2 5 (b__law_behind_item L0 (tb k)) := by unfold tb; rw [tab]
theorem t_b__law_left (k : Nat) : tb (k + 1) .F_law_left = fnD 2 5 (b__law_left L0 (tb k)) := by unfold tb; rw [tab]
theorem t_b__law_items (k : Nat) : tb (k + 1) .F_law_items = fnD 1 3 (b__law_items L0 (tb k)) := by unfold tb; rw [tab]
theorem t_b__law_numbered (k : Nat) : tb (k + 1) .F_law_numbered = fnD 2 4 (b__law_numbered L0 (tb k)) := by unfold tb; rw [tab]
theorem t_b__law_takes (k : Nat) : tb (k + 1) .F_law_takes = fnD 2 5 (b__law_takes L0 (tb k)) := by unfold tb; rw [tab]
theorem t_b__law_goes (k : Nat) : tb (k + 1) .F_law_goes = fnD 2 9 (b__law_goes L0 (tb k)) := by unfold tb; rw [tab]
theorem t_b__law_deep (k : Nat) : tb (k + 1) .F_law_deep = fnD 1 2 (b__law_deep L0 (tb k)) := by unfold tb; rw [tab]
theorem t_b__law_due (k : Nat) : tb (k + 1) .F_law_due = fnD 1 2 (b__law_due L0 (tb k)) := by unfold tb; rw [tab]
theorem t_b_law (k : Nat) : tb (k + 1) .Flaw = fnD 1 21 (b_law L0 (tb k)) := by unfold tb; rw [tab]
theorem big0 {n : Nat} (h : n ≤ 100000) : n < L0 + 0 := Nat.lt_of_le_of_lt h (by unfold L0; decide)
theorem ok_none : PyData.strOk "none" = true := by decide +kernel
theorem ok_item : PyData.strOk "item" = true := by decide +kernel
theorem ok_row : PyData.strOk "row" = true := by decide +kernel
theorem ok_either : PyData.strOk "either" = true := by decide +kernel
theorem ok_many : PyData.strOk "many" = true := by decide +kernel
theorem ne_ni : decide (("none" : Str) = "item") = false := by decide +kernel
theorem ne_ri : decide (("row" : Str) = "item") = false := by decide +kernel
theorem ne_ei : decide (("either" : Str) = "item") = false := by decide +kernel
theorem ne_mi : decide (("many" : Str) = "item") = false := by decide +kernel
theorem eq_ii : decide (("item" : Str) = "item") = true := by decide +kernel

theorem sz {n : Nat} (h : n ≤ 1000) : n ≤ sizeLine := Nat.le_trans h (by rw [sizeLine_eq]; decide)
theorem run_str {a b : Str} {st : S} {Q : D → S → Prop} (ha : PyData.strOk a = true) (hb : PyData.strOk b = true) : Rn (eqO (.str a) (.str b)) st Q = Q (.bl (decide (a = b))) st := run_eqS ha hb
@[simp] theorem q_ni {st : S} {Q : D → S → Prop} : Rn (eqO (.str "none") (.str "item")) st Q = Q (.bl false) st := by rw [run_eqS ok_none ok_item, ne_ni]
@[simp] theorem q_ii {st : S} {Q : D → S → Prop} : Rn (eqO (.str "item") (.str "item")) st Q = Q (.bl true) st := by rw [run_eqS ok_item ok_item, eq_ii]
@[simp] theorem q_ri {st : S} {Q : D → S → Prop} : Rn (eqO (.str "row") (.str "item")) st Q = Q (.bl false) st := by rw [run_eqS ok_row ok_item, ne_ri]
@[simp] theorem q_ei {st : S} {Q : D → S → Prop} : Rn (eqO (.str "either") (.str "item")) st Q = Q (.bl false) st := by rw [run_eqS ok_either ok_item, ne_ei]
@[simp] theorem q_mi {st : S} {Q : D → S → Prop} : Rn (eqO (.str "many") (.str "item")) st Q = Q (.bl false) st := by rw [run_eqS ok_many ok_item, ne_mi]
theorem places_item (k : Nat) (a : Str) : Gv (tb (k + 1) .Fplaces_of [.tup [.str "item", .str a]]) (.tup [.str a]) := gv_of fun st => by
  rw [t_b_places_of]
  simp [b_places_of, q_ii, sz]
theorem flat_take {β γ : Type} (xs : List β) (f : β → List γ) (i : Nat) : ((xs.take i).flatMap f).length ≤ (xs.flatMap f).length := by
  have e : xs.flatMap f = (xs.take i).flatMap f ++ (xs.drop i).flatMap f := by rw [← List.flatMap_append, List.take_append_drop]
  rw [e, List.length_append]
  exact Nat.le_add_right _ _
theorem flat_step {β γ : Type} {xs : List β} (f : β → List γ) {i : Nat} {d : β} (h : xs[i]? = some d) : (xs.take (i + 1)).flatMap f = (xs.take i).flatMap f ++ f d := by
  rw [List.take_add_one, h, List.flatMap_append]
  simp
theorem lt0 {n : Nat} (h : n ≤ 1000) : n < L0 + 0 := big0 (Nat.le_trans h (by decide))
/-- the loop of a def that gathers over the parts -/
theorem places_row (k : Nat) (h : Str) (prs : List (D × List D)) (hq : ∀ {st : S} {Q : D → S → Prop}, Rn (eqO (.str h) (.str "item")) st Q = Q (.bl false) st) (hx : ∀ x ∈ prs, Gv (tb k .Fplaces_of [x.1]) (.tup x.2)) (hn : prs.length ≤ 1000) (hz : (prs.flatMap (·.2)).length ≤ 1000) :
    Gv (tb (k + 1) .Fplaces_of [.tup (.str h :: prs.map (·.1))]) (.tup (prs.flatMap (·.2))) := gv_of fun st => by
  rw [t_b_places_of]
  simp [b_places_of, hq]
  refine run_for (ds := prs.map (·.1)) (fun i es s => ∃ (o : Option D) (ex : S), es = [some (.tup (.str h :: prs.map (·.1))), some (.tup ((prs.take i).flatMap (·.2))), o] ∧ s = st ++ ex) (fun i es s _ => rfl) ?_ ?_ _ _ _ _ ?_ ?_ ?_
  · rintro i d es s hd ⟨o, ex, rfl, rfl⟩
    obtain ⟨x, hx1, rfl⟩ : ∃ x, prs[i]? = some x ∧ x.1 = d := by
      rw [List.getElem?_map] at hd
      cases e : prs[i]? with
      | none => rw [e] at hd; cases hd
      | some x => rw [e] at hd; exact ⟨x, rfl, Option.some.inj hd⟩
    simp
    refine (hx x (List.mem_of_getElem? hx1)).run fun ex2 => ?_
    have e1 := flat_step (·.2) hx1
    have e2 := flat_take prs (·.2) (i + 1)
    rw [e1, List.length_append] at e2
    simp [e1, -List.length_flatMap]
    exact sz (by omega)
  · rintro es s ⟨o, ex, rfl, rfl⟩
    simp
  · exact lt0 (by rw [List.length_map]; exact hn)
  · exact Nat.zero_le _
  · exact ⟨none, [], rfl, by simp⟩
variable {α : Type} {f : α → Str}
def Pat.its (p : Pat α) (f : α → Str) : List D := p.items.map fun a => .str (f a)
theorem places_of (f : α → Str) : ∀ (p : Pat α) (k : Nat), p.deep ≤ k → p.items.length ≤ 1000 → Gv (tb k .Fplaces_of [p.toD f]) (.tup (p.its f))
  | p, 0, h, _ => by cases p <;> simp [Pat.deep] at h <;> omega
  | .none, k + 1, _, _ => places_row k "none" [] q_ni (fun x hx => by cases hx) (by decide) (by decide)
  | .item a, k + 1, _, _ => places_item k (f a)
  | .row p q, k + 1, h, hz => by
    have h1 : max p.deep q.deep ≤ k := by unfold Pat.deep at h; omega
    have hz1 : p.items.length + q.items.length ≤ 1000 := by unfold Pat.items at hz; rw [List.length_append] at hz; exact hz
    have e := places_row k "row" [(p.toD f, p.its f), (q.toD f, q.its f)] q_ri (fun x hx => by
      simp at hx
      rcases hx with rfl | rfl
      · exact places_of f p k (by omega) (by omega)
      · exact places_of f q k (by omega) (by omega)) (by simp) (by simp [Pat.its]; omega)
    simpa [Pat.its, Pat.items, Pat.toD] using e
  | .either p q, k + 1, h, hz => by
    have h1 : max p.deep q.deep ≤ k := by unfold Pat.deep at h; omega
    have hz1 : p.items.length + q.items.length ≤ 1000 := by unfold Pat.items at hz; rw [List.length_append] at hz; exact hz
    have e := places_row k "either" [(p.toD f, p.its f), (q.toD f, q.its f)] q_ei (fun x hx => by
      simp at hx
      rcases hx with rfl | rfl
      · exact places_of f p k (by omega) (by omega)
      · exact places_of f q k (by omega) (by omega)) (by simp) (by simp [Pat.its]; omega)
    simpa [Pat.its, Pat.items, Pat.toD] using e
  | .many p, k + 1, h, hz => by
    have h1 : p.deep ≤ k := by unfold Pat.deep at h; omega
    have e := places_row k "many" [(p.toD f, p.its f)] q_mi (fun x hx => by
      simp at hx
      subst hx
      exact places_of f p k h1 hz) (by simp) (by simpa [Pat.its, Pat.items] using hz)
    simpa [Pat.its, Pat.items, Pat.toD] using e
end K35


namespace K35
open PySem Mx

/-! ### data without places of the store -/
theorem mapO_mono {α β : Type} {f g : α → Option β} (h : ∀ x y, f x = some y → g x = some y) : ∀ {xs : List α} {ys : List β}, mapO f xs = some ys → mapO g xs = some ys
  | [], _, e => e
  | x :: xs, ys, e => by
    unfold mapO at e ⊢
    cases e1 : f x with
    | none => rw [e1] at e; cases e
    | some y =>
      rw [e1] at e
      rw [h x y e1]
      cases e2 : mapO f xs with
      | none => rw [e2] at e; cases e
      | some zs =>
        rw [e2] at e
        rw [mapO_mono h e2]
        exact e
theorem toPy_pure : ∀ {n : Nat} {d : D} {p : PyData}, toPy [] n d = some p → ∀ {m : Nat} {st : S}, n ≤ m → toPy st m d = some p
  | 0, d, p, h, _, _, _ => by cases d <;> cases h
  | n + 1, d, p, h, 0, _, hm => by omega
  | n + 1, d, p, h, m + 1, st, hm => by
    have ih : ∀ x y, toPy [] n x = some y → toPy st m x = some y := fun x y e => toPy_pure e (by omega)
    cases d with
    | tup ds =>
      unfold toPy at h ⊢
      cases e : mapO (toPy [] n) ds with
      | none => rw [e] at h; cases h
      | some ps => rw [e] at h; rw [mapO_mono ih e]; exact h
    | rot ds =>
      unfold toPy at h ⊢
      cases e : mapO (toPy [] n) ds with
      | none => rw [e] at h; cases h
      | some ps => rw [e] at h; rw [mapO_mono ih e]; exact h
    | rol ds =>
      unfold toPy at h ⊢
      cases e : mapO (toPy [] n) ds with
      | none => rw [e] at h; cases h
      | some ps => rw [e] at h; rw [mapO_mono ih e]; exact h
    | ref k => cases h
    | _ => exact h
theorem mapO_all {α β : Type} {f : α → Option β} {P : β → Prop} (h : ∀ x y, f x = some y → P y) : ∀ {xs : List α} {ys : List β}, mapO f xs = some ys → ∀ y ∈ ys, P y
  | [], ys, e, y, hy => by cases e; cases hy
  | x :: xs, ys, e, y, hy => by
    unfold mapO at e
    cases e1 : f x with
    | none => rw [e1] at e; cases e
    | some z =>
      rw [e1] at e
      cases e2 : mapO f xs with
      | none => rw [e2] at e; cases e
      | some zs =>
        rw [e2] at e
        cases e
        rcases List.mem_cons.mp hy with rfl | hy
        · exact h x _ e1
        · exact mapO_all h e2 y hy
theorem eqvAll_refl' : ∀ {ps : List PyData}, (∀ p ∈ ps, PyData.eqv p p = true) → PyData.eqvAll ps ps = true
  | [], _ => by rw [PyData.eqvAll]
  | p :: ps, h => by
    rw [PyData.eqvAll, h p (List.mem_cons_self ..), eqvAll_refl' fun q hq => h q (List.mem_cons_of_mem _ hq)]
    rfl
theorem toPy_refl {st : S} : ∀ {n : Nat} {d : D} {p : PyData}, toPy st n d = some p → PyData.eqv p p = true
  | 0, d, p, h => by cases d <;> cases h
  | n + 1, d, p, h => by
    have ih : ∀ x y, toPy st n x = some y → PyData.eqv y y = true := fun x y e => toPy_refl e
    cases d with
    | tup ds =>
      unfold toPy at h
      cases e : mapO (toPy st n) ds with
      | none => rw [e] at h; cases h
      | some ps => rw [e] at h; cases h; rw [PyData.eqv]; exact eqvAll_refl' (mapO_all ih e)
    | rot ds =>
      unfold toPy at h
      cases e : mapO (toPy st n) ds with
      | none => rw [e] at h; cases h
      | some ps => rw [e] at h; cases h; rw [PyData.eqv]; exact eqvAll_refl' (mapO_all ih e)
    | rol ds =>
      unfold toPy at h
      cases e : mapO (toPy st n) ds with
      | none => rw [e] at h; cases h
      | some ps => rw [e] at h; cases h; rw [PyData.eqv]; exact eqvAll_refl' (mapO_all ih e)
    | ref k =>
      unfold toPy at h
      split at h
      · rename_i ds _
        cases e : mapO (toPy st n) ds with
        | none => rw [e] at h; cases h
        | some ps => rw [e] at h; cases h; rw [PyData.eqv]; exact eqvAll_refl' (mapO_all ih e)
      · cases h
    | non => cases h; rfl
    | bl b => cases h; simp [PyData.eqv]
    | int b => cases h; simp [PyData.eqv]
    | str x =>
      unfold toPy at h
      split at h
      · cases h; simp [PyData.eqv]
      · cases h
    | ty t => cases h
/-- data that == takes wherever -/
def Pu (d : D) : Prop := (toPy [] 64 d).isSome = true
theorem Pu.get {d : D} (h : Pu d) : ∃ p, ∀ st, toPy st 64 d = some p := by
  obtain ⟨p, e⟩ := Option.isSome_iff_exists.mp h
  exact ⟨p, fun st => toPy_pure e (Nat.le_refl _)⟩
theorem run_eqr {d : D} (h : Pu d) {st : S} {Q : D → S → Prop} : Rn (eqO d d) st Q = Q (.bl true) st := by
  obtain ⟨p, e⟩ := h.get
  rw [run_eqO, e st]
  show Q (.bl (PyData.eqv p p)) st = _
  rw [toPy_refl (e st)]
theorem run_ner {d : D} (h : Pu d) {st : S} {Q : D → S → Prop} : Rn (neO d d) st Q = Q (.bl false) st := by
  obtain ⟨p, e⟩ := h.get
  rw [run_neO, e st]
  show Q (.bl (!PyData.eqv p p)) st = _
  rw [toPy_refl (e st)]
  rfl

/-! ### what may be first, last, and behind a place -/
namespace Pat
section
variable {α : Type} [DecidableEq α]
def hollow : Pat α → Bool
  | .none => true
  | .item _ => false
  | .row p q => p.hollow && q.hollow
  | .either p q => p.hollow || q.hollow
  | .many _ => true
def fst : Pat α → List α
  | .none => []
  | .item a => [a]
  | .row p q => p.fst ++ if p.hollow then q.fst else []
  | .either p q => p.fst ++ q.fst
  | .many p => p.fst
def lst : Pat α → List α
  | .none => []
  | .item a => [a]
  | .row p q => q.lst ++ if q.hollow then p.lst else []
  | .either p q => p.lst ++ q.lst
  | .many p => p.lst
def fol : Pat α → α → List α
  | .none, _ => []
  | .item _, _ => []
  | .row p q, i => p.fol i ++ q.fol i ++ if i ∈ p.lst then q.fst else []
  | .either p q, i => p.fol i ++ q.fol i
  | .many p, i => p.fol i ++ if i ∈ p.lst then p.fst else []
def num : Pat α → Int → Pat Int
  | .none, _ => .none
  | .item _, n => .item n
  | .row p q, n => .row (p.num n) (q.num (n + p.items.length))
  | .either p q, n => .either (p.num n) (q.num (n + p.items.length))
  | .many p, n => .many (p.num n)
theorem fst_sub : ∀ {p : Pat α} {i : α}, i ∈ p.fst → i ∈ p.items
  | .none, i, h => h
  | .item _, i, h => h
  | .row p q, i, h => by
    unfold fst at h
    unfold items
    rcases List.mem_append.mp h with h | h
    · exact List.mem_append_left _ (fst_sub h)
    · split at h
      · exact List.mem_append_right _ (fst_sub h)
      · cases h
  | .either p q, i, h => by
    unfold fst at h
    unfold items
    rcases List.mem_append.mp h with h | h
    · exact List.mem_append_left _ (fst_sub h)
    · exact List.mem_append_right _ (fst_sub h)
  | .many p, i, h => fst_sub (p := p) h
theorem lst_sub : ∀ {p : Pat α} {i : α}, i ∈ p.lst → i ∈ p.items
  | .none, i, h => h
  | .item _, i, h => h
  | .row p q, i, h => by
    unfold lst at h
    unfold items
    rcases List.mem_append.mp h with h | h
    · exact List.mem_append_right _ (lst_sub h)
    · split at h
      · exact List.mem_append_left _ (lst_sub h)
      · cases h
  | .either p q, i, h => by
    unfold lst at h
    unfold items
    rcases List.mem_append.mp h with h | h
    · exact List.mem_append_left _ (lst_sub h)
    · exact List.mem_append_right _ (lst_sub h)
  | .many p, i, h => lst_sub (p := p) h
theorem fol_nil : ∀ {p : Pat α} {i : α}, i ∉ p.items → p.fol i = []
  | .none, i, h => rfl
  | .item _, i, h => rfl
  | .row p q, i, h => by
    unfold items at h
    rw [List.mem_append, not_or] at h
    unfold fol
    rw [fol_nil h.1, fol_nil h.2, if_neg fun e => h.1 (lst_sub e)]
    rfl
  | .either p q, i, h => by
    unfold items at h
    rw [List.mem_append, not_or] at h
    unfold fol
    rw [fol_nil h.1, fol_nil h.2]
    rfl
  | .many p, i, h => by
    unfold fol
    rw [fol_nil (p := p) h, if_neg fun e => h (lst_sub (p := p) e)]
    rfl
theorem fol_sub : ∀ {p : Pat α} {i j : α}, j ∈ p.fol i → j ∈ p.items
  | .none, i, j, h => by cases h
  | .item _, i, j, h => by cases h
  | .row p q, i, j, h => by
    unfold fol at h
    unfold items
    rcases List.mem_append.mp h with h | h
    · rcases List.mem_append.mp h with h | h
      · exact List.mem_append_left _ (fol_sub h)
      · exact List.mem_append_right _ (fol_sub h)
    · split at h
      · exact List.mem_append_right _ (fst_sub h)
      · cases h
  | .either p q, i, j, h => by
    unfold fol at h
    unfold items
    rcases List.mem_append.mp h with h | h
    · exact List.mem_append_left _ (fol_sub h)
    · exact List.mem_append_right _ (fol_sub h)
  | .many p, i, j, h => by
    unfold fol at h
    rcases List.mem_append.mp h with h | h
    · exact fol_sub (p := p) h
    · split at h
      · exact fst_sub (p := p) h
      · cases h
theorem fst_len : ∀ p : Pat α, p.fst.length ≤ p.items.length
  | .none => Nat.le_refl _
  | .item _ => Nat.le_refl _
  | .row p q => by
    have h1 := fst_len p
    have h2 := fst_len q
    unfold fst items
    rw [List.length_append, List.length_append]
    split
    · omega
    · simp; omega
  | .either p q => by
    have h1 := fst_len p
    have h2 := fst_len q
    unfold fst items
    rw [List.length_append, List.length_append]
    omega
  | .many p => fst_len p
theorem lst_len : ∀ p : Pat α, p.lst.length ≤ p.items.length
  | .none => Nat.le_refl _
  | .item _ => Nat.le_refl _
  | .row p q => by
    have h1 := lst_len p
    have h2 := lst_len q
    unfold lst items
    rw [List.length_append, List.length_append]
    split
    · omega
    · simp; omega
  | .either p q => by
    have h1 := lst_len p
    have h2 := lst_len q
    unfold lst items
    rw [List.length_append, List.length_append]
    omega
  | .many p => lst_len p
theorem fol_len (i : α) : ∀ p : Pat α, (p.fol i).length ≤ p.deep * p.items.length
  | .none => Nat.zero_le _
  | .item _ => Nat.zero_le _
  | .row p q => by
    have h1 := fol_len i p
    have h2 := fol_len i q
    have h3 := fst_len q
    unfold fol items deep
    rw [List.length_append, List.length_append, List.length_append, Nat.add_mul, Nat.one_mul, Nat.mul_add]
    have e1 : p.deep * p.items.length ≤ max p.deep q.deep * p.items.length := Nat.mul_le_mul_right _ (Nat.le_max_left ..)
    have e2 : q.deep * q.items.length ≤ max p.deep q.deep * q.items.length := Nat.mul_le_mul_right _ (Nat.le_max_right ..)
    split
    · omega
    · simp; omega
  | .either p q => by
    have h1 := fol_len i p
    have h2 := fol_len i q
    unfold fol items deep
    rw [List.length_append, List.length_append, Nat.add_mul, Nat.one_mul, Nat.mul_add]
    have e1 : p.deep * p.items.length ≤ max p.deep q.deep * p.items.length := Nat.mul_le_mul_right _ (Nat.le_max_left ..)
    have e2 : q.deep * q.items.length ≤ max p.deep q.deep * q.items.length := Nat.mul_le_mul_right _ (Nat.le_max_right ..)
    omega
  | .many p => by
    have h1 := fol_len i p
    have h2 := fst_len p
    unfold fol deep
    show _ ≤ (1 + p.deep) * p.items.length
    rw [List.length_append, Nat.add_mul, Nat.one_mul]
    split
    · omega
    · simp; omega
theorem lst_nodup : ∀ p : Pat α, p.items.Nodup → p.lst.Nodup
  | .none, h => h
  | .item _, h => h
  | .row p q, h => by
    unfold items at h
    obtain ⟨h1, h2, h3⟩ := List.nodup_append.mp h
    unfold lst
    split
    · exact List.nodup_append.mpr ⟨lst_nodup q h2, lst_nodup p h1, fun a ha b hb e => h3 b (lst_sub hb) a (lst_sub ha) e.symm⟩
    · rw [List.append_nil]
      exact lst_nodup q h2
  | .either p q, h => by
    unfold items at h
    obtain ⟨h1, h2, h3⟩ := List.nodup_append.mp h
    unfold lst
    exact List.nodup_append.mpr ⟨lst_nodup p h1, lst_nodup q h2, fun a ha b hb e => h3 a (lst_sub ha) b (lst_sub hb) e⟩
  | .many p, h => lst_nodup p h
end
section
variable {α : Type} [DecidableEq α]
/-- n whole numbers from i on -/
def run (i : Int) : Nat → List Int
  | 0 => []
  | n + 1 => i :: run (i + 1) n
theorem run_add : ∀ (n m : Nat) (i : Int), run i (n + m) = run i n ++ run (i + n) m
  | 0, m, i => by simp [run]
  | n + 1, m, i => by
    rw [Nat.add_right_comm, run, run, run_add n m (i + 1), List.cons_append]
    congr 3
    omega
theorem run_len : ∀ (n : Nat) (i : Int), (run i n).length = n
  | 0, _ => rfl
  | n + 1, i => by rw [run, List.length_cons, run_len]
theorem mem_run : ∀ {n : Nat} {i j : Int}, j ∈ run i n ↔ i ≤ j ∧ j < i + n
  | 0, i, j => by simp [run]
  | n + 1, i, j => by
    rw [run, List.mem_cons, mem_run]
    omega
theorem run_nodup : ∀ (n : Nat) (i : Int), (run i n).Nodup
  | 0, _ => List.nodup_nil
  | n + 1, i => by
    rw [run]
    refine List.nodup_cons.mpr ⟨fun h => ?_, run_nodup n _⟩
    rw [mem_run] at h
    omega
theorem num_items : ∀ (p : Pat α) (n : Int), (p.num n).items = run n p.items.length
  | .none, n => rfl
  | .item _, n => rfl
  | .row p q, n => by
    unfold num items
    rw [num_items, num_items, List.length_append, run_add]
  | .either p q, n => by
    unfold num items
    rw [num_items, num_items, List.length_append, run_add]
  | .many p, n => num_items p n
theorem num_len (p : Pat α) (n : Int) : (p.num n).items.length = p.items.length := by rw [num_items, run_len]
theorem num_nodup (p : Pat α) (n : Int) : (p.num n).items.Nodup := by rw [num_items]; exact run_nodup _ _
theorem num_hollow : ∀ (p : Pat α) (n : Int), (p.num n).hollow = p.hollow
  | .none, n => rfl
  | .item _, n => rfl
  | .row p q, n => by unfold num hollow; rw [num_hollow, num_hollow]
  | .either p q, n => by unfold num hollow; rw [num_hollow, num_hollow]
  | .many p, n => rfl
theorem num_deep : ∀ (p : Pat α) (n : Int), (p.num n).deep = p.deep
  | .none, n => rfl
  | .item _, n => rfl
  | .row p q, n => by unfold num deep; rw [num_deep, num_deep]
  | .either p q, n => by unfold num deep; rw [num_deep, num_deep]
  | .many p, n => by unfold num deep; rw [num_deep]
end
end Pat
end K35


namespace K35
open PySem Mx
open L2 (Key)

/-! ### dicts whose keys are places -/
def tI (l : List Int) : D := .tup (l.map .int)
def dct (l : List Int) (F : Int → List Int) : List (Key × D) := l.map fun i => (.inl i, tI (F i))
theorem dct_congr {F G : Int → List Int} : ∀ {l : List Int}, (∀ i ∈ l, F i = G i) → dct l F = dct l G
  | [], _ => rfl
  | i :: l, h => by
    unfold dct
    rw [List.map_cons, List.map_cons, h i (List.mem_cons_self ..)]
    congr 1
    exact dct_congr (l := l) fun j hj => h j (List.mem_cons_of_mem _ hj)
theorem look_dct {F : Int → List Int} {i : Int} : ∀ {l : List Int}, look (dct l F) (.inl i) = if i ∈ l then some (tI (F i)) else none
  | [] => rfl
  | j :: l => by
    show (if (Sum.inl j : Key) = .inl i then some (tI (F j)) else look (dct l F) (.inl i)) = _
    rw [look_dct]
    by_cases h : j = i
    · subst h; simp
    · rw [if_neg (fun e => h (Sum.inl.inj e))]
      simp [Ne.symm h]
theorem repl_dct {F : Int → List Int} {i : Int} {v : List Int} : ∀ {l : List Int}, repl (dct l F) (.inl i) (tI v) = dct l fun j => if j = i then v else F j
  | [] => rfl
  | j :: l => by
    show (if (Sum.inl j : Key) = .inl i then ((Sum.inl j : Key), tI v) else (.inl j, tI (F j))) :: repl (dct l F) (.inl i) (tI v) = _
    rw [repl_dct]
    by_cases h : j = i
    · subst h; simp [dct]
    · rw [if_neg (fun e => h (Sum.inl.inj e))]
      simp [dct, h]
theorem put_dct {F : Int → List Int} {i : Int} {v : List Int} {l : List Int} (h : i ∈ l) : put (dct l F) (.inl i) (tI v) = dct l fun j => if j = i then v else F j := by
  unfold put
  rw [look_dct, if_pos h, repl_dct]
  rfl
theorem put_new {F : Int → List Int} {i : Int} {v : D} {l : List Int} (h : i ∉ l) : put (dct l F) (.inl i) v = dct l F ++ [(.inl i, v)] := by
  unfold put
  rw [look_dct, if_neg h]
  rfl
theorem merge_dct : ∀ {m l : List Int} {F G : Int → List Int}, m.Nodup → (∀ i ∈ m, i ∉ l) → merge (dct l F) (dct m G) = dct l F ++ dct m G
  | [], l, F, G, _, _ => by simp [merge, dct]
  | j :: m, l, F, G, hn, h => by
    have hj := h j (List.mem_cons_self ..)
    obtain ⟨hn1, hn2⟩ := List.nodup_cons.mp hn
    have e1 : dct l F ++ [((.inl j : Key), tI (G j))] = dct (l ++ [j]) fun i => if i ∈ l then F i else G i := by
      unfold dct
      rw [List.map_append]
      congr 1
      · exact List.map_congr_left fun i hi => by simp only [if_pos hi]
      · simp [hj]
    show merge (put (dct l F) (.inl j) (tI (G j))) (dct m G) = _
    rw [put_new hj, e1, merge_dct hn2 (fun i hi => by
      rw [List.mem_append, not_or]
      refine ⟨h i (List.mem_cons_of_mem _ hi), fun e => ?_⟩
      rw [List.mem_singleton] at e
      subst e
      exact hn1 hi), ← e1]
    simp [dct]
theorem dct_app {l m : List Int} {F G : Int → List Int} (h : ∀ i ∈ m, i ∉ l) : dct l F ++ dct m G = dct (l ++ m) fun i => if i ∈ l then F i else G i := by
  unfold dct
  rw [List.map_append]
  congr 1
  · exact List.map_congr_left fun i hi => by simp only [if_pos hi]
  · exact List.map_congr_left fun i hi => by simp only [if_neg (h i hi)]
theorem merge_nil {l : List Int} {F : Int → List Int} (h : l.Nodup) : merge [] (dct l F) = dct l F := merge_dct (l := []) (F := F) h (fun i _ => List.not_mem_nil)

/-! ### rules for dicts and lists of the store -/
section
variable {st : S} {Q : D → S → Prop} {kvs : List (Key × D)} {xs : List D} {n : Nat}
theorem rn_congr {α : Type} {m m' : M α} {QA : α → S → Prop} (h : m st = m' st) : Rn m st QA = Rn m' st QA := by unfold Rn; rw [h]
theorem run_ixK {i : Int} (h : st[n]? = some (.dic kvs)) : Rn (ixD (.ref n) (.int i)) st Q = Rn (ofO (look kvs (.inl i))) st Q := rn_congr (by
  show ixRef n (.int i) st = _
  unfold ixRef
  rw [h]
  rfl)
@[simp] theorem run_setK {o i : Es → M D} {d : D} {es : Es} {QE : Es → S → Prop} : Rn (subG o i d es) st QE = Rn (o es) st fun x s => Rn (i es) s fun y s2 => Rn (setD x y d) s2 fun _ s3 => QE es s3 := by
  unfold subG
  simp only [run_bind, run_pure]
theorem run_setD {i : Int} {d : D} {QU : Unit → S → Prop} (h : st[n]? = some (.dic kvs)) : Rn (setD (.ref n) (.int i) d) st QU = (kvs.length < sizeLine ∧ QU () (st.set n (.dic (put kvs (.inl i) d)))) := by
  have e : setD (.ref n) (.int i) d st = if kvs.length < sizeLine then some ((), st.set n (.dic (put kvs (.inl i) d))) else none := by
    show setRef n (.int i) d st = _
    unfold setRef
    rw [h]
    rfl
  unfold Rn
  rw [e]
  by_cases q : kvs.length < sizeLine
  · rw [if_pos q]; simp [q]
  · rw [if_neg q]; simp [q]
@[simp] theorem run_star2 {a b : Es → M D} {es : Es} : Rn (star2D a b es) st Q = Rn (a es) st fun x s => Rn (dicOfD x) s fun kx s2 => Rn (b es) s2 fun y s3 => Rn (dicOfD y) s3 fun ky s4 => (kx.length + ky.length ≤ sizeLine ∧ Q (.ref s4.length) (s4 ++ [.dic (merge (merge [] kx) ky)])) := by
  unfold star2D
  simp only [run_bind, run_guard, run_new, decide_eq_true_eq]
theorem run_dicOf {QK : List (Key × D) → S → Prop} (h : st[n]? = some (.dic kvs)) : Rn (dicOfD (.ref n)) st QK = QK kvs st := run_some (by
  show dicAt n st = _
  unfold dicAt
  rw [h]
  rfl)
theorem run_dictD (h : st[n]? = some (.dic kvs)) : Rn (on1 dictD [.ref n]) st Q = Q (.ref st.length) (st ++ [.dic kvs]) := by
  show Rn (dicAt n >>= _) st Q = _
  rw [run_bind]
  unfold Rn dicAt
  rw [h]
  rfl
@[simp] theorem run_emptyD {es : Es} : Rn (emptyD es) st Q = Q (.ref st.length) (st ++ [.dic []]) := rfl
theorem ga {ex : S} {o : O} (h : st[n]? = some o) : (st ++ ex)[n]? = some o := by
  have := (List.getElem?_eq_some_iff.mp h).1
  rw [List.getElem?_append_left this]
  exact h
theorem gn {o : O} : (st ++ [o])[st.length]? = some o := by simp
theorem gset {ex : S} {o : O} (h : st.length ≤ n) : ∃ ex', (st ++ ex).set n o = st ++ ex' := ⟨ex.set (n - st.length) o, by
  rw [List.set_append]
  split
  · omega
  · rfl⟩
theorem gat {o o' : O} (h : st[n]? = some o) : (st.set n o')[n]? = some o' := by
  have := (List.getElem?_eq_some_iff.mp h).1
  simp [this]
end

/-- what moves_from answers -/
def MvOk (q : Pat Int) (st : S) (d : D) (s : S) : Prop := ∃ m ex, d = .tup [tI q.fst, .ref m, tI q.lst, .bl q.hollow] ∧ s = st ++ ex ∧ st.length ≤ m ∧ s[m]? = some (.dic (dct q.items q.fol))
@[simp] theorem q_nn {st : S} {Q : D → S → Prop} : Rn (eqO (.str "none") (.str "none")) st Q = Q (.bl true) st := by rw [run_eqS ok_none ok_none]; simp
@[simp] theorem q_in {st : S} {Q : D → S → Prop} : Rn (eqO (.str "item") (.str "none")) st Q = Q (.bl false) st := by rw [run_eqS ok_item ok_none, show decide (("item" : Str) = "none") = false by decide +kernel]
@[simp] theorem q_rn {st : S} {Q : D → S → Prop} : Rn (eqO (.str "row") (.str "none")) st Q = Q (.bl false) st := by rw [run_eqS ok_row ok_none, show decide (("row" : Str) = "none") = false by decide +kernel]
@[simp] theorem q_en {st : S} {Q : D → S → Prop} : Rn (eqO (.str "either") (.str "none")) st Q = Q (.bl false) st := by rw [run_eqS ok_either ok_none, show decide (("either" : Str) = "none") = false by decide +kernel]
@[simp] theorem q_mn {st : S} {Q : D → S → Prop} : Rn (eqO (.str "many") (.str "none")) st Q = Q (.bl false) st := by rw [run_eqS ok_many ok_none, show decide (("many" : Str) = "none") = false by decide +kernel]
@[simp] theorem q_rm {st : S} {Q : D → S → Prop} : Rn (eqO (.str "row") (.str "many")) st Q = Q (.bl false) st := by rw [run_eqS ok_row ok_many, show decide (("row" : Str) = "many") = false by decide +kernel]
@[simp] theorem q_em {st : S} {Q : D → S → Prop} : Rn (eqO (.str "either") (.str "many")) st Q = Q (.bl false) st := by rw [run_eqS ok_either ok_many, show decide (("either" : Str) = "many") = false by decide +kernel]
@[simp] theorem q_mm {st : S} {Q : D → S → Prop} : Rn (eqO (.str "many") (.str "many")) st Q = Q (.bl true) st := by rw [run_eqS ok_many ok_many]; simp
@[simp] theorem q_rr {st : S} {Q : D → S → Prop} : Rn (eqO (.str "row") (.str "row")) st Q = Q (.bl true) st := by rw [run_eqS ok_row ok_row]; simp
@[simp] theorem q_er {st : S} {Q : D → S → Prop} : Rn (eqO (.str "either") (.str "row")) st Q = Q (.bl false) st := by rw [run_eqS ok_either ok_row, show decide (("either" : Str) = "row") = false by decide +kernel]
@[simp] theorem q_rg {st : S} {Q : D → S → Prop} : Rn (eqO (.str "row") (.str "either")) st Q = Q (.bl false) st := by rw [run_eqS ok_row ok_either, show decide (("row" : Str) = "either") = false by decide +kernel]
@[simp] theorem q_eg {st : S} {Q : D → S → Prop} : Rn (eqO (.str "either") (.str "either")) st Q = Q (.bl true) st := by rw [run_eqS ok_either ok_either]; simp
theorem tI_add {a b : List Int} {st : S} {Q : D → S → Prop} : Rn (binD .Add (tI a) (tI b)) st Q = (a.length + b.length ≤ sizeLine ∧ Q (tI (a ++ b)) st) := by
  unfold tI
  rw [show binD .Add = addD from rfl, run_addT, List.length_map, List.length_map, List.map_append]
section
variable {x y z w : D} {r : List D} {st : S} {Q : D → S → Prop}
theorem at3 : L2.atI (x :: y :: z :: w :: r) 3 = some w := by
  unfold L2.atI L2.ixN
  rw [if_pos (by omega), if_pos (by simp; omega)]
  rfl
end
theorem mvNone (k : Nat) (n : Int) (st : S) : Rn (tb (k + 1) .Fmoves_from [Pat.toD (α := Str) id .none, .int n]) st (MvOk .none st) := by
  rw [t_b_moves_from]
  simp [b_moves_from, Pat.toD, MvOk, Pat.fst, Pat.lst, Pat.hollow, Pat.items, dct, tI, sz]
theorem mvItem {α : Type} (f : α → Str) (a : α) (k : Nat) (n : Int) (st : S) : Rn (tb (k + 1) .Fmoves_from [Pat.toD f (.item a), .int n]) st (MvOk (.item n) st) := by
  rw [t_b_moves_from]
  simp [b_moves_from, Pat.toD, MvOk, Pat.fst, Pat.lst, Pat.hollow, Pat.items, Pat.fol, dct, tI, sz, dispD, pairsD, keyD, merge, put, look]
end K35


namespace K35
open PySem Mx
open L2 (Key)

theorem take_get {l : List Int} {t : Nat} {i : Int} (h : l[t]? = some i) : l.take (t + 1) = l.take t ++ [i] := by
  rw [List.take_add_one, h]
  rfl
theorem not_take {l : List Int} (hn : l.Nodup) {t : Nat} {i : Int} (h : l[t]? = some i) : i ∉ l.take t := fun m => by
  obtain ⟨j, hj⟩ := List.mem_iff_getElem?.mp m
  rw [List.getElem?_take] at hj
  split at hj
  · rename_i hjt
    obtain ⟨hj1, hj2⟩ := List.getElem?_eq_some_iff.mp hj
    obtain ⟨ht1, ht2⟩ := List.getElem?_eq_some_iff.mp h
    exact absurd ((List.getElem_inj hn).mp (hj2.trans ht2.symm)) (by omega)
  · cases hj
theorem dct_len {l : List Int} {F : Int → List Int} : (dct l F).length = l.length := by unfold dct; rw [List.length_map]
/-- one lap of: both[place] = both[place] + later -/
theorem dct_lap {I : List Int} {F : Int → List Int} {l : List Int} {g : List Int} {t : Nat} {i : Int} (hn : l.Nodup) (hI : ∀ i ∈ l, i ∈ I) (h : l[t]? = some i) :
    put (dct I fun j => F j ++ if j ∈ l.take t then g else []) (.inl i) (tI (F i ++ g)) = dct I fun j => F j ++ if j ∈ l.take (t + 1) then g else [] := by
  rw [put_dct (hI i (List.mem_of_getElem? h))]
  refine dct_congr fun j hj => ?_
  by_cases e : j = i
  · subst e
    rw [if_pos rfl, if_pos (by rw [take_get h]; simp)]
  · rw [if_neg e]
    congr 1
    have : (j ∈ l.take (t + 1)) = (j ∈ l.take t) := by rw [take_get h]; simp [e]
    simp only [this]
theorem set_app {st : S} {o o' : O} : (st ++ [o]).set st.length o' = st ++ [o'] := by
  simp
theorem lk {I : List Int} {F : Int → List Int} {i : Int} (h : i ∈ I) {st : S} {Q : D → S → Prop} : Rn (ofO (look (dct I F) (.inl i))) st Q = Q (tI (F i)) st := by
  rw [look_dct, if_pos h]
  rfl
theorem tI_nil {a : List Int} {st : S} {Q : D → S → Prop} : Rn (binD .Add (tI a) (.tup [])) st Q = (a.length ≤ sizeLine ∧ Q (tI a) st) := by
  rw [show (.tup [] : D) = tI [] from rfl, tI_add, List.append_nil]
  rfl
theorem sz2 {n : Nat} (h : n ≤ 10000) : n ≤ sizeLine := Nat.le_trans h (by rw [sizeLine_eq]; decide)
theorem sz3 {n : Nat} (h : n ≤ 10000) : n < sizeLine := Nat.lt_of_lt_of_le (by omega : n < 10001) (Nat.le_trans (by decide : 10001 ≤ 20000) (by rw [sizeLine_eq]; decide))
theorem joined_either (k : Nat) (st : S) (f1 f2 l1 l2 I1 I2 : List Int) (F1 F2 : Int → List Int) (h1 h2 : Bool) (m1 m2 : Nat) (e1 : st[m1]? = some (.dic (dct I1 F1))) (e2 : st[m2]? = some (.dic (dct I2 F2)))
    (n1 : I1.Nodup) (n2 : I2.Nodup) (dj : ∀ i ∈ I2, i ∉ I1) (z : f1.length + f2.length + l1.length + l2.length + I1.length + I2.length ≤ 1000) :
    Rn (tb (k + 1) .Fjoined_moves [.tup [tI f1, .ref m1, tI l1, .bl h1], .tup [tI f2, .ref m2, tI l2, .bl h2], .bl false]) st fun d s => d = .tup [tI (f1 ++ f2), .ref st.length, tI (l1 ++ l2), .bl (h1 || h2)] ∧ s = st ++ [.dic (dct (I1 ++ I2) fun i => if i ∈ I1 then F1 i else F2 i)] := by
  rw [t_b_joined_moves]
  simp [b_joined_moves, run_dicOf e1, run_dicOf e2, tI_add]
  rw [merge_nil n1, merge_dct n2 dj, dct_app dj, dct_len, dct_len]
  refine ⟨sz (by omega), sz (by omega), sz (by omega), ?_⟩
  cases h1 <;> simp [sz]
theorem joined_row (k : Nat) (st : S) (f1 f2 l1 l2 I1 I2 : List Int) (F1 F2 : Int → List Int) (h1 h2 : Bool) (m1 m2 : Nat) (e1 : st[m1]? = some (.dic (dct I1 F1))) (e2 : st[m2]? = some (.dic (dct I2 F2)))
    (n1 : I1.Nodup) (n2 : I2.Nodup) (dj : ∀ i ∈ I2, i ∉ I1) (nl : l1.Nodup) (hl : ∀ i ∈ l1, i ∈ I1) (hF : ∀ i, (F1 i).length ≤ 1000) (z : f1.length + f2.length + l1.length + l2.length + I1.length + I2.length ≤ 1000) :
    Rn (tb (k + 1) .Fjoined_moves [.tup [tI f1, .ref m1, tI l1, .bl h1], .tup [tI f2, .ref m2, tI l2, .bl h2], .bl true]) st fun d s => d = .tup [tI (f1 ++ if h1 then f2 else []), .ref st.length, tI (l2 ++ if h2 then l1 else []), .bl (h1 && h2)] ∧ s = st ++ [.dic (dct (I1 ++ I2) fun i => (if i ∈ I1 then F1 i else F2 i) ++ if i ∈ l1 then f2 else [])] := by
  rw [t_b_joined_moves]
  simp [b_joined_moves, run_dicOf e1, run_dicOf e2, tI_add]
  rw [merge_nil n1, merge_dct n2 dj, dct_app dj, dct_len, dct_len]
  refine ⟨sz (by omega), ?_⟩
  rw [show tI l1 = .tup (l1.map .int) from rfl]
  simp
  refine run_for (ds := l1.map .int) (fun i es s => ∃ (o : Option D), es = [some (.tup [tI f1, .ref m1, tI l1, .bl h1]), some (.tup [tI f2, .ref m2, tI l2, .bl h2]), some (.bl true), some (tI f1), some (.ref m1), some (tI l1), some (.bl h1), some (tI f2), some (.ref m2), some (tI l2), some (.bl h2), some (.ref st.length), o] ∧ s = st ++ [.dic (dct (I1 ++ I2) fun j => (if j ∈ I1 then F1 j else F2 j) ++ if j ∈ l1.take i then f2 else [])]) (fun i es s _ => rfl) ?_ ?_ _ _ _ _ ?_ ?_ ?_
  · rintro t d es s hd ⟨o, rfl, rfl⟩
    obtain ⟨i, hi, rfl⟩ : ∃ i, l1[t]? = some i ∧ .int i = d := by
      rw [List.getElem?_map] at hd
      cases e : l1[t]? with
      | none => rw [e] at hd; cases hd
      | some x => rw [e] at hd; exact ⟨x, rfl, Option.some.inj hd⟩
    have hiI := hl i (List.mem_of_getElem? hi)
    have hmem : i ∈ I1 ++ I2 := List.mem_append_left _ hiI
    simp [run_ixK gn, lk hmem, hiI, not_take nl hi, tI_add, run_setD gn, dct_len]
    refine ⟨sz2 (by have := hF i; omega), sz3 (by omega), ?_⟩
    have := dct_lap (I := I1 ++ I2) (F := fun j => if j ∈ I1 then F1 j else F2 j) (g := f2) nl (fun i hi => List.mem_append_left _ (hl i hi)) hi
    simp only [if_pos hiI] at this
    rw [this]
  · rintro es s ⟨o, rfl, rfl⟩
    rw [List.length_map, List.take_length]
    cases h1 <;> cases h2 <;> simp [tI_add, tI_nil, sz2] <;> first | (refine ⟨sz (by omega), sz (by omega)⟩) | exact sz (by omega)
  · exact lt0 (by rw [List.length_map]; omega)
  · exact Nat.zero_le _
  · exact ⟨none, rfl, by simp⟩
end K35


namespace K35
open PySem Mx
open L2 (Key)
theorem fol_len2 {α : Type} [DecidableEq α] {p : Pat α} {i : α} (h : p.items.length ≤ 100) (hd : p.deep ≤ 10) : (p.fol i).length ≤ 1000 :=
  Nat.le_trans (Pat.fol_len i p) (Nat.le_trans (Nat.mul_le_mul hd h) (by decide))
theorem getApp {st ex : S} {n : Nat} {o : O} (h : (st ++ ex)[n]? = some o) (e2 : S) : (st ++ (ex ++ e2))[n]? = some o := by
  rw [← List.append_assoc]
  exact ga h
theorem fol_row {p q : Pat Int} {i : Int} : (Pat.row p q).fol i = p.fol i ++ q.fol i ++ if i ∈ p.lst then q.fst else [] := rfl
theorem fol_either {p q : Pat Int} {i : Int} : (Pat.either p q).fol i = p.fol i ++ q.fol i := rfl
variable {α : Type} [DecidableEq α] (f : α → Str)
theorem deep_pos : ∀ p : Pat α, 1 ≤ p.deep := fun p => by cases p <;> simp [Pat.deep]
theorem moves_many (k : Nat) (n : Int) (st : S) (p : Pat α) (q : Pat Int) (ih : Rn (tb k .Fmoves_from [p.toD f, .int n]) st (MvOk q st)) (hn : q.items.Nodup) (hi : q.items.length ≤ 100) (hd : q.deep ≤ 10) :
    Rn (tb (k + 1) .Fmoves_from [(Pat.many p).toD f, .int n]) st (MvOk (.many q) st) := by
  have nl := Pat.lst_nodup q hn
  have hz := Pat.lst_len q
  have hz2 := Pat.fst_len q
  rw [t_b_moves_from]
  simp [b_moves_from, Pat.toD]
  refine ih.mono fun d s ⟨m, ex, hd1, hs, hm, hg⟩ => ?_
  subst hd1
  have hg2 : s[m]? = some (.dic (dct q.items q.fol)) := hg
  simp [run_dictD hg]
  rw [show tI q.lst = .tup (q.lst.map .int) from rfl]
  simp
  refine run_for (ds := q.lst.map .int) (fun i es s' => ∃ (o o2 : Option D), es = [some ((Pat.many p).toD f), some (.int n), some (.tup [tI q.fst, .ref m, tI q.lst, .bl q.hollow]), some (.ref s.length), o, o2] ∧ s' = s ++ [.dic (dct q.items fun j => q.fol j ++ if j ∈ q.lst.take i then q.fst else [])]) (fun i es s _ => rfl) ?_ ?_ _ _ _ _ ?_ ?_ ?_
  · rintro t d es s' hd' ⟨o, o2, rfl, rfl⟩
    obtain ⟨i, hi', rfl⟩ : ∃ i, q.lst[t]? = some i ∧ .int i = d := by
      rw [List.getElem?_map] at hd'
      cases e : q.lst[t]? with
      | none => rw [e] at hd'; cases hd'
      | some x => rw [e] at hd'; exact ⟨x, rfl, Option.some.inj hd'⟩
    have hmem := Pat.lst_sub (List.mem_of_getElem? hi')
    simp [run_ixK gn, lk hmem, not_take nl hi', tI_add, run_setD gn, dct_len]
    have hF := fol_len2 (i := i) hi hd
    refine ⟨sz2 (by omega), sz3 (by omega), ?_⟩
    rw [dct_lap nl (fun i hi => Pat.lst_sub hi) hi']
  · rintro es s' ⟨o, o2, rfl, rfl⟩
    rw [List.length_map, List.take_length]
    simp [sz]
    refine ⟨s.length, ex ++ [.dic (dct q.items fun j => q.fol j ++ if j ∈ q.lst then q.fst else [])], rfl, ?_, ?_, gn⟩
    · rw [hs, List.append_assoc]
    · rw [hs, List.length_append]; omega
  · exact lt0 (by rw [List.length_map]; omega)
  · exact Nat.zero_le _
  · exact ⟨none, none, rfl, by simp⟩
theorem moves_two (k : Nat) (n : Int) (st : S) (p p2 : Pat α) (q q2 : Pat Int) (h : Str) (b : Bool) (r : Pat α) (rq : Pat Int) (hr : r.toD f = .tup [.str h, p.toD f, p2.toD f])
    (h1 : ∀ {st : S} {Q : D → S → Prop}, Rn (eqO (.str h) (.str "none")) st Q = Q (.bl false) st) (h2 : ∀ {st : S} {Q : D → S → Prop}, Rn (eqO (.str h) (.str "item")) st Q = Q (.bl false) st) (h3 : ∀ {st : S} {Q : D → S → Prop}, Rn (eqO (.str h) (.str "many")) st Q = Q (.bl false) st) (h4 : ∀ {st : S} {Q : D → S → Prop}, Rn (eqO (.str h) (.str "row")) st Q = Q (.bl b) st)
    (hp : Gv (tb k .Fplaces_of [p.toD f]) (.tup (p.its f)))
    (ih : ∀ st, Rn (tb k .Fmoves_from [p.toD f, .int n]) st (MvOk q st)) (ih2 : ∀ st, Rn (tb k .Fmoves_from [p2.toD f, .int (n + p.items.length)]) st (MvOk q2 st))
    (hj : ∀ (st : S) (m1 m2 : Nat), st[m1]? = some (.dic (dct q.items q.fol)) → st[m2]? = some (.dic (dct q2.items q2.fol)) → Rn (tb k .Fjoined_moves [.tup [tI q.fst, .ref m1, tI q.lst, .bl q.hollow], .tup [tI q2.fst, .ref m2, tI q2.lst, .bl q2.hollow], .bl b]) st (MvOk rq st)) :
    Rn (tb (k + 1) .Fmoves_from [r.toD f, .int n]) st (MvOk rq st) := by
  rw [t_b_moves_from, hr]
  simp [b_moves_from, h1, h2, h3, h4]
  refine (ih st).mono fun d s ⟨m, ex, hd1, hs, hm, hg⟩ => ?_
  subst hd1
  refine hp.run fun ex2 => ?_
  simp [Pat.its]
  refine (ih2 _).mono fun d2 s2 ⟨m2, ex3, hd2, hs2, hm2, hg2⟩ => ?_
  subst hd2
  refine (hj s2 m m2 (by rw [hs2]; exact ga (ga hg)) hg2).mono fun d3 s3 ⟨m3, ex4, hd3, hs3, hm3, hg3⟩ => ?_
  subst hd3
  refine ⟨m3, ex ++ ex2 ++ ex3 ++ ex4, rfl, by simp [hs3, hs2, hs], ?_, hg3⟩
  simp [hs2, hs] at hm3
  omega
theorem moves_from_ok : ∀ (p : Pat α) (k : Nat) (n : Int) (st : S), p.deep + 1 ≤ k → p.items.length ≤ 100 → p.deep ≤ 10 → Rn (tb k .Fmoves_from [p.toD f, .int n]) st (MvOk (p.num n) st)
  | p, 0, n, st, h, _, _ => by cases p <;> omega
  | .none, k + 1, n, st, _, _, _ => mvNone k n st
  | .item a, k + 1, n, st, _, _, _ => mvItem f a k n st
  | .many p, k + 1, n, st, h, hi, hd => by
    unfold Pat.deep at h hd
    exact moves_many f k n st p _ (moves_from_ok p k n st (by omega) hi (by omega)) (Pat.num_nodup p n) (by rw [Pat.num_len]; exact hi) (by rw [Pat.num_deep]; omega)
  | .row p p2, k + 1, n, st, h, hi, hd => by
    unfold Pat.deep at h hd
    unfold Pat.items at hi
    rw [List.length_append] at hi
    have z1 := Pat.fst_len (p.num n)
    have z2 := Pat.fst_len (p2.num (n + p.items.length))
    have z3 := Pat.lst_len (p.num n)
    have z4 := Pat.lst_len (p2.num (n + p.items.length))
    rw [Pat.num_len] at z1 z2 z3 z4
    have nd := Pat.num_nodup (.row p p2) n
    unfold Pat.num Pat.items at nd
    obtain ⟨n1, n2, n3⟩ := List.nodup_append.mp nd
    match k, h with
    | 0, h => have := deep_pos p; omega
    | k + 1, h =>
      refine moves_two f (k + 1) n st p p2 (p.num n) (p2.num (n + p.items.length)) "row" true (.row p p2) _ rfl q_rn q_ri q_rm q_rr (places_of f p _ (by omega) (by omega)) (fun st => moves_from_ok p _ n st (by omega) (by omega) (by omega)) (fun st => moves_from_ok p2 _ _ st (by omega) (by omega) (by omega)) fun st m1 m2 e1 e2 => ?_
      refine (joined_row k st _ _ _ _ _ _ _ _ _ _ m1 m2 e1 e2 n1 n2 (fun i hi hi2 => n3 i hi2 i hi rfl) (Pat.lst_nodup _ n1) (fun i hi => Pat.lst_sub hi) (fun i => fol_len2 (by rw [Pat.num_len]; omega) (by rw [Pat.num_deep]; omega)) (by rw [Pat.num_len, Pat.num_len]; omega)).mono fun d s ⟨e3, e4⟩ => ?_
      refine ⟨st.length, _, e3, e4, Nat.le_refl _, ?_⟩
      rw [e4, gn]
      refine congrArg (fun x => some (O.dic x)) ?_
      refine dct_congr (l := (p.num n).items ++ (p2.num (n + p.items.length)).items) fun i hi => ?_
      show _ = Pat.fol (.row (p.num n) (p2.num (n + p.items.length))) i
      rw [fol_row]
      congr 1
      split
      · rename_i hi2
        rw [Pat.fol_nil fun z => n3 i hi2 i z rfl, List.append_nil]
      · rename_i hi2
        rw [Pat.fol_nil hi2, List.nil_append]
  | .either p p2, k + 1, n, st, h, hi, hd => by
    unfold Pat.deep at h hd
    unfold Pat.items at hi
    rw [List.length_append] at hi
    have z1 := Pat.fst_len (p.num n)
    have z2 := Pat.fst_len (p2.num (n + p.items.length))
    have z3 := Pat.lst_len (p.num n)
    have z4 := Pat.lst_len (p2.num (n + p.items.length))
    rw [Pat.num_len] at z1 z2 z3 z4
    have nd := Pat.num_nodup (.either p p2) n
    unfold Pat.num Pat.items at nd
    obtain ⟨n1, n2, n3⟩ := List.nodup_append.mp nd
    match k, h with
    | 0, h => have := deep_pos p; omega
    | k + 1, h =>
      refine moves_two f (k + 1) n st p p2 (p.num n) (p2.num (n + p.items.length)) "either" false (.either p p2) _ rfl q_en q_ei q_em q_er (places_of f p _ (by omega) (by omega)) (fun st => moves_from_ok p _ n st (by omega) (by omega) (by omega)) (fun st => moves_from_ok p2 _ _ st (by omega) (by omega) (by omega)) fun st m1 m2 e1 e2 => ?_
      refine (joined_either k st _ _ _ _ _ _ _ _ _ _ m1 m2 e1 e2 n1 n2 (fun i hi hi2 => n3 i hi2 i hi rfl) (by rw [Pat.num_len, Pat.num_len]; omega)).mono fun d s ⟨e3, e4⟩ => ?_
      refine ⟨st.length, _, e3, e4, Nat.le_refl _, ?_⟩
      rw [e4, gn]
      refine congrArg (fun x => some (O.dic x)) ?_
      refine dct_congr (l := (p.num n).items ++ (p2.num (n + p.items.length)).items) fun i hi => ?_
      show _ = Pat.fol (.either (p.num n) (p2.num (n + p.items.length))) i
      rw [fol_either]
      split
      · rename_i hi2
        rw [Pat.fol_nil (p := p2.num _) fun z => n3 i hi2 i z rfl, List.append_nil]
      · rename_i hi2
        rw [Pat.fol_nil hi2, List.nil_append]
end K35


namespace K35
open PySem Mx
open L2 (Key)
section
variable {st : S} {Q : D → S → Prop} {xs : List D} {n : Nat} {es : Es}
@[simp] theorem intsOf_map : ∀ l : List Int, intsOf (l.map .int) = some l
  | [] => rfl
  | i :: l => by rw [List.map_cons, intsOf, intsOf_map l]
@[simp] theorem run_sset {me : Es → M D} : Rn (ssetD me es) st Q = Rn (me es) st fun x s => match x with
    | .tup ds => match intsOf ds with
      | some ns => ns.length < 64 ∧ Q (.ref s.length) (s ++ [.lst ((uniqI ns).map .int)])
      | none => False
    | _ => False := by
  unfold ssetD
  rw [run_bind]
  congr 1
  funext x s
  cases x with
  | tup ds =>
    dsimp only
    cases e : intsOf ds with
    | none => rfl
    | some ns =>
      dsimp only
      rw [run_bind, run_guard, decide_eq_true_eq]
      rfl
  | _ => rfl
theorem run_tupR (h : st[n]? = some (.lst xs)) : Rn (on1 tupleD [.ref n]) st Q = Q (.tup xs) st := by
  show Rn (lstAt n >>= _) st Q = _
  have e : lstAt n st = some (xs, st) := by unfold lstAt; rw [h]
  rw [run_bind, run_some e]
  rfl
@[simp] theorem run_tupN : Rn (on1 tupleD [.ref st.length]) (st ++ [.lst xs]) Q = Q (.tup xs) (st ++ [.lst xs]) := run_tupR gn
@[simp] theorem run_rng {me : Es → M D} {QR : Src → S → Prop} : Rn (rng1S me es) st QR = Rn (me es) st fun x s => match x with
    | .int j => small62 j = true ∧ QR (.rng 0 j.toNat) s
    | _ => False := by
  unfold rng1S
  rw [run_bind]
  congr 1
  funext x s
  cases x with
  | int j => simp only [run_bind, run_guard, run_pure]
  | _ => rfl
theorem run_get : ∀ (m : Nat) (lo : Int) (i : Nat), (Pat.run lo m)[i]? = if i < m then some (lo + i) else none
  | 0, lo, i => by simp [Pat.run]
  | m + 1, lo, 0 => by simp [Pat.run]
  | m + 1, lo, i + 1 => by
    rw [Pat.run, List.getElem?_cons_succ, run_get m]
    by_cases h : i < m
    · rw [if_pos h, if_pos (by omega)]; congr 1; omega
    · rw [if_neg h, if_neg (by omega)]
theorem rng_at {lo : Int} {m i : Nat} : (Src.rng lo m).at st i = lapOf ((Pat.run lo m).map D.int)[i]? := by
  rw [List.getElem?_map, run_get]
  unfold Src.at
  by_cases h : i < m
  · simp [h, lapOf]
  · simp [h, lapOf]
theorem seq_at {ds : List D} {i : Nat} : (Src.seq ds).at st i = lapOf ds[i]? := rfl
theorem live_at (h : st[n]? = some (.lst xs)) {i : Nat} : (Src.live n).at st i = lapOf xs[i]? := by
  show liveAt i st[n]? = _
  rw [h]
  rfl
theorem run_live {QR : Src → S → Prop} (h : st[n]? = some (.lst xs)) : Rn (seqSrc (.ref n)) st QR = QR (.live n) st := run_some (by
  show (match st[n]? with | some (.lst _) => some (Src.live n, st) | _ => none) = _
  rw [h])
theorem small {j : Nat} (h : j ≤ 10000) : small62 (j : Int) = true := by
  unfold small62
  simp only [Bool.and_eq_true, decide_eq_true_eq]
  omega
@[simp] theorem run_yes {QB : Bool → S → Prop} : Rn (yesT es) st QB = QB true st := rfl
end
theorem memR {n i : Nat} {d : D} {l : List Int} (h : (l.map D.int)[n]? = some d) : ∃ i, l[n]? = some i ∧ .int i = d := by
  rw [List.getElem?_map] at h
  cases e : l[n]? with
  | none => rw [e] at h; cases h
  | some x => rw [e] at h; exact ⟨x, rfl, Option.some.inj h⟩
def mvD (q : Pat Int) : D := .tup [tI (uniqI q.fst), .tup (q.items.map fun i => tI (uniqI (q.fol i))), tI (uniqI q.lst), .bl q.hollow]
variable {α : Type} [DecidableEq α] (f : α → Str)
theorem moves_of_ok (p : Pat α) (k : Nat) (h : p.deep + 1 ≤ k) (hi : p.items.length ≤ 8) (hd : p.deep ≤ 7) : Gv (tb (k + 1) .Fmoves_of [p.toD f]) (mvD (p.num 0)) := gv_of fun st => by
  have z1 := Pat.fst_len (p.num 0)
  have z2 := Pat.lst_len (p.num 0)
  rw [Pat.num_len] at z1 z2
  have z3 : ∀ i, ((p.num 0).fol i).length < 64 := fun i => Nat.lt_of_le_of_lt (Pat.fol_len i _) (by
    rw [Pat.num_len, Pat.num_deep]
    exact Nat.lt_of_le_of_lt (Nat.mul_le_mul hd hi) (by decide))
  rw [t_b_moves_of]
  simp [b_moves_of]
  refine (moves_from_ok f p k 0 st h (by omega) (by omega)).mono fun d s ⟨m, ex, hd1, hs, hm, hg⟩ => ?_
  subst hd1
  simp
  refine (places_of f p k (by omega) (by omega)).run fun ex2 => ?_
  simp [wipeE, Pat.its]
  refine ⟨small (by omega), ?_⟩
  refine run_lapC (ds := (p.num 0).items.map .int) (fun i acc s' => acc = ((p.num 0).items.take i).map (fun j => tI (uniqI ((p.num 0).fol j))) ∧ ∃ ex3, s' = s ++ ex3) (fun i acc s' _ => by rw [Pat.num_items]; exact rng_at) ?_ ?_ _ _ _ _ ?_ ?_ ?_
  · rintro i d acc s' hd' ⟨rfl, ex3, rfl⟩
    obtain ⟨j, hj, rfl⟩ := memR (i := 0) hd'
    have hmem := List.mem_of_getElem? hj
    simp [run_ixK (ga hg), lk hmem]
    rw [show tI ((p.num 0).fol j) = .tup (((p.num 0).fol j).map .int) from rfl]
    simp [z3 j]
    refine ⟨sz3 (by have := Pat.num_len p 0; omega), ?_⟩
    rw [List.take_add_one, List.getElem?_map, hj]
    rfl
  · rintro acc s' ⟨rfl, ex3, rfl⟩
    simp
    rw [show tI (p.num 0).fst = .tup ((p.num 0).fst.map .int) from rfl, show tI (p.num 0).lst = .tup ((p.num 0).lst.map .int) from rfl]
    simp
    refine ⟨by omega, by omega, sz (by decide), rfl, ?_⟩
    rw [hs, List.append_assoc]
    exact ⟨_, rfl⟩
  · exact lt0 (by rw [List.length_map, Pat.num_len]; omega)
  · exact Nat.zero_le _
  · exact ⟨rfl, ex2, rfl⟩
end K35


namespace K35
open PySem Mx
open L2 (Key)
/-! ### loops over few -/
def sI (i : Int) : Str := toString i
def N1 : Nat := 999999
def N2 : Nat := 999998
def N3 : Nat := 999997
theorem L0_eq : L0 = N1 + 1 := rfl
theorem N1_eq : N1 = N2 + 1 := rfl
theorem N2_eq : N2 = N3 + 1 := rfl
section
variable {st : S} {Q : D → S → Prop} {QS : Es × Fl → S → Prop} {QL : List D → S → Prop} {xs ys : List D} {n m i : Nat} {es : Es} {s : Src} {g : D → Es → M Es} {b : Es → M (Es × Fl)}
theorem run_lap : Rn (lapS s g b (n + 1) i es) st QS = match s.at st i with
    | .stop => QS (es, .nx) st
    | .bad => False
    | .got d => Rn (g d es) st fun e s2 => Rn (b e) s2 fun p s3 => match p.2 with
      | .nx => Rn (lapS s g b n (i + 1) p.1) s3 QS
      | .ct => Rn (lapS s g b n (i + 1) p.1) s3 QS
      | .bk => QS (p.1, .nx) s3
      | .rt d => QS (p.1, .rt d) s3 := by
  cases e : s.at st i with
  | stop => exact run_some (by unfold lapS; rw [e])
  | bad => unfold Rn lapS; rw [e]
  | got d =>
    have e2 : lapS s g b (n + 1) i es st = (do
      let es1 ← g d es
      let p ← b es1
      match p.2 with
        | .nx => lapS s g b n (i + 1) p.1
        | .ct => lapS s g b n (i + 1) p.1
        | .bk => pure (p.1, .nx)
        | .rt d => pure (p.1, .rt d)) st := by
      conv => lhs; unfold lapS
      rw [e]
      try rfl
    refine (rn_congr e2).trans ?_
    rw [run_bind]
    congr 1
    funext e1 s1
    rw [run_bind]
    congr 1
    funext p s2
    obtain ⟨e2, f⟩ := p
    cases f <;> rfl
theorem lapE {n' : Nat} (h : n' = n + 1) : Rn (lapS s g b n' i es) st QS = match s.at st i with
    | .stop => QS (es, .nx) st
    | .bad => False
    | .got d => Rn (g d es) st fun e s2 => Rn (b e) s2 fun p s3 => match p.2 with
      | .nx => Rn (lapS s g b n (i + 1) p.1) s3 QS
      | .ct => Rn (lapS s g b n (i + 1) p.1) s3 QS
      | .bk => QS (p.1, .nx) s3
      | .rt d => QS (p.1, .rt d) s3 := by
  subst h
  exact run_lap
theorem run_lapc {t : Es → M Bool} {e : Es → M D} {acc : List D} : Rn (lapC s g t e es (n + 1) i acc) st QL = match s.at st i with
    | .stop => QL acc st
    | .bad => False
    | .got d => Rn (g d es) st fun e1 s2 => Rn (t e1) s2 fun q s3 => if q = true then Rn (e e1) s3 fun y s4 => acc.length < sizeLine ∧ Rn (lapC s g t e es n (i + 1) (acc ++ [y])) s4 QL else Rn (lapC s g t e es n (i + 1) acc) s3 QL := by
  cases h : s.at st i with
  | stop => exact run_some (by unfold lapC; rw [h])
  | bad => unfold Rn lapC; rw [h]
  | got d =>
    have e2 : lapC s g t e es (n + 1) i acc st = (do
      let es1 ← g d es
      let q ← t es1
      if q then do
        let y ← e es1
        guardM (decide (acc.length < sizeLine))
        lapC s g t e es n (i + 1) (acc ++ [y])
      else lapC s g t e es n (i + 1) acc) st := by
      conv => lhs; unfold lapC
      rw [h]
    refine (rn_congr e2).trans ?_
    rw [run_bind]
    congr 1
    funext e1 s1
    rw [run_bind]
    congr 1
    funext q s2
    cases q with
    | true =>
      show Rn (e e1 >>= _) s2 QL = _
      rw [run_bind, if_pos rfl]
      congr 1
      funext y s3
      rw [run_bind, run_guard, decide_eq_true_eq]
    | false => rfl
theorem lacE {t : Es → M Bool} {e : Es → M D} {acc : List D} {n' : Nat} (h : n' = n + 1) : Rn (lapC s g t e es n' i acc) st QL = match s.at st i with
    | .stop => QL acc st
    | .bad => False
    | .got d => Rn (g d es) st fun e1 s2 => Rn (t e1) s2 fun q s3 => if q = true then Rn (e e1) s3 fun y s4 => acc.length < sizeLine ∧ Rn (lapC s g t e es n (i + 1) (acc ++ [y])) s4 QL else Rn (lapC s g t e es n (i + 1) acc) s3 QL := by
  subst h
  exact run_lapc
theorem lstAt_of (h : st[n]? = some (.lst xs)) : lstAt n st = some (xs, st) := by unfold lstAt; rw [h]
theorem run_addR (h : st[n]? = some (.lst xs)) (h2 : st[m]? = some (.lst ys)) : Rn (binD .Add (.ref n) (.ref m)) st Q = (xs.length + ys.length ≤ sizeLine ∧ Q (.ref st.length) (st ++ [.lst (xs ++ ys)])) := by
  show Rn (lstAt n >>= _) st Q = _
  rw [run_bind, run_some (lstAt_of h), run_bind, run_some (lstAt_of h2), run_bind, run_guard, decide_eq_true_eq]
  rfl
theorem run_isLst {QB : Bool → S → Prop} (h : st[n]? = some (.lst xs)) : Rn (isLst (.ref n)) st QB = QB true st := run_some (by
  show (match st[n]? with | some (.lst _) => some (true, st) | _ => none) = _
  rw [h])
theorem run_append {y : D} (h : st[n]? = some (.lst xs)) : Rn (appendD (.ref n) [y]) st Q = (xs.length < sizeLine ∧ Q .non (st.set n (.lst (xs ++ [y])))) := by
  show Rn (lstAt n >>= _) st Q = _
  rw [run_bind, run_some (lstAt_of h), run_bind, run_guard, decide_eq_true_eq]
  rfl
theorem run_lenR (h : st[n]? = some (.lst xs)) : Rn (on1 lenD [.ref n]) st Q = Q (.int xs.length) st := run_some (by
  show (match st[n]? with | some (.lst xs) => some (D.int xs.length, st) | some (.dic kvs) => some (.int kvs.length, st) | some (.dif kvs) => some (.int kvs.length, st) | _ => none) = _
  rw [h])
@[simp] theorem run_inT {x : D} {ys : List D} : Rn (inO x (.tup ys)) st Q = ((flatD x && ys.all flatD) = true ∧ Q (.bl (ys.any fun z => eq1 z x)) st) := by
  unfold inO
  rw [run_blM, run_bind]
  show Rn (guardM _ >>= _) st _ = _
  rw [run_bind, run_guard]
  rfl
@[simp] theorem run_ninT {x : D} {ys : List D} : Rn (ninO x (.tup ys)) st Q = ((flatD x && ys.all flatD) = true ∧ Q (.bl (!(ys.any fun z => eq1 z x))) st) := by
  unfold ninO
  rw [run_blM, run_bind]
  show Rn (guardM _ >>= _) st _ = _
  rw [run_bind, run_guard]
  rfl
@[simp] theorem run_str1 {j : Int} : Rn (on1 strD [.int j]) st Q = (j.natAbs.log2 < 1920 ∧ Q (.str (sI j)) st) := by
  show Rn (guardM _ >>= _) st _ = _
  rw [run_bind, run_guard, decide_eq_true_eq]
  rfl
end
@[simp] theorem bq_nn : (("none" : Str) == "none") = true := by decide +kernel
@[simp] theorem bq_ni : (("none" : Str) == "item") = false := by decide +kernel
@[simp] theorem bq_nr : (("none" : Str) == "row") = false := by decide +kernel
@[simp] theorem bq_ne : (("none" : Str) == "either") = false := by decide +kernel
@[simp] theorem bq_nm : (("none" : Str) == "many") = false := by decide +kernel
@[simp] theorem bq_in : (("item" : Str) == "none") = false := by decide +kernel
@[simp] theorem bq_ii : (("item" : Str) == "item") = true := by decide +kernel
@[simp] theorem bq_ir : (("item" : Str) == "row") = false := by decide +kernel
@[simp] theorem bq_ie : (("item" : Str) == "either") = false := by decide +kernel
@[simp] theorem bq_im : (("item" : Str) == "many") = false := by decide +kernel
@[simp] theorem bq_rn : (("row" : Str) == "none") = false := by decide +kernel
@[simp] theorem bq_ri : (("row" : Str) == "item") = false := by decide +kernel
@[simp] theorem bq_rr : (("row" : Str) == "row") = true := by decide +kernel
@[simp] theorem bq_re : (("row" : Str) == "either") = false := by decide +kernel
@[simp] theorem bq_rm : (("row" : Str) == "many") = false := by decide +kernel
@[simp] theorem bq_en : (("either" : Str) == "none") = false := by decide +kernel
@[simp] theorem bq_ei : (("either" : Str) == "item") = false := by decide +kernel
@[simp] theorem bq_er : (("either" : Str) == "row") = false := by decide +kernel
@[simp] theorem bq_ee : (("either" : Str) == "either") = true := by decide +kernel
@[simp] theorem bq_em : (("either" : Str) == "many") = false := by decide +kernel
@[simp] theorem bq_mn : (("many" : Str) == "none") = false := by decide +kernel
@[simp] theorem bq_mi : (("many" : Str) == "item") = false := by decide +kernel
@[simp] theorem bq_mr : (("many" : Str) == "row") = false := by decide +kernel
@[simp] theorem bq_me : (("many" : Str) == "either") = false := by decide +kernel
@[simp] theorem bq_mm : (("many" : Str) == "many") = true := by decide +kernel
@[simp] theorem fl_non : flatD .non = true := rfl
@[simp] theorem fl_bl {b : Bool} : flatD (.bl b) = true := rfl
@[simp] theorem fl_int {b : Int} : flatD (.int b) = true := rfl
@[simp] theorem fl_str {b : Str} : flatD (.str b) = true := rfl
@[simp] theorem fl_tup {b : List D} : flatD (.tup b) = false := rfl
@[simp] theorem fl_ref {b : Nat} : flatD (.ref b) = false := rfl
@[simp] theorem eq1_ss {a b : Str} : eq1 (.str a) (.str b) = (a == b) := rfl
@[simp] theorem eq1_ii {a b : Int} : eq1 (.int a) (.int b) = (a == b) := rfl
@[simp] theorem eq1_bb {a b : Bool} : eq1 (.bl a) (.bl b) = (a == b) := rfl
@[simp] theorem eq1_si {a : Str} {b : Int} : eq1 (.str a) (.int b) = false := rfl
@[simp] theorem eq1_is {a : Int} {b : Str} : eq1 (.int a) (.str b) = false := rfl
@[simp] theorem eq1_sb {a : Str} {b : Bool} : eq1 (.str a) (.bl b) = false := rfl
@[simp] theorem eq1_bs {a : Bool} {b : Str} : eq1 (.bl a) (.str b) = false := rfl
variable {α : Type} [DecidableEq α] (f : α → Str)
theorem hollow_ok : ∀ (p : Pat α) (k : Nat), p.deep ≤ k → Gv (tb k .F_law_hollow [p.toD f]) (.bl p.hollow)
  | p, 0, h => by have := deep_pos p; omega
  | .none, k + 1, h => gv_of fun st => by
    rw [t_b__law_hollow]
    simp [b__law_hollow, Pat.toD, Pat.hollow, sz]
  | .item a, k + 1, h => gv_of fun st => by
    rw [t_b__law_hollow]
    simp [b__law_hollow, Pat.toD, Pat.hollow, sz]
  | .many p, k + 1, h => gv_of fun st => by
    rw [t_b__law_hollow]
    simp [b__law_hollow, Pat.toD, Pat.hollow, sz]
  | .row p q, k + 1, h => gv_of fun st => by
    unfold Pat.deep at h
    rw [t_b__law_hollow]
    simp [b__law_hollow, Pat.toD, sz]
    refine (hollow_ok p k (by omega)).run fun ex => ?_
    refine (hollow_ok q k (by omega)).run fun ex2 => ?_
    simp
    cases e : p.hollow <;> simp [Pat.hollow, e]
  | .either p q, k + 1, h => gv_of fun st => by
    unfold Pat.deep at h
    rw [t_b__law_hollow]
    simp [b__law_hollow, Pat.toD, sz]
    refine (hollow_ok p k (by omega)).run fun ex => ?_
    refine (hollow_ok q k (by omega)).run fun ex2 => ?_
    simp
    cases e : p.hollow <;> simp [Pat.hollow, e]
theorem items_ok : ∀ (p : Pat α) (k : Nat), p.deep ≤ k → p.items.length ≤ 1000 → Gn (tb k .F_law_items [p.toD f]) (p.its f)
  | p, 0, h, hz => by have := deep_pos p; omega
  | .none, k + 1, h, hz => gl_of fun st => by
    rw [t_b__law_items]
    simp [b__law_items, Pat.toD, Pat.its, Pat.items, sz, lapE L0_eq, seq_at, lapOf]
  | .item a, k + 1, h, hz => gl_of fun st => by
    rw [t_b__law_items]
    simp [b__law_items, Pat.toD, Pat.its, Pat.items, sz]
  | .many p, k + 1, h, hz => gl_of fun st => by
    unfold Pat.deep at h
    unfold Pat.items at hz
    rw [t_b__law_items]
    simp [b__law_items, Pat.toD, sz, lapE L0_eq, lapE N1_eq, seq_at, lapOf]
    refine (items_ok p k (by omega) hz).run fun n ex hn hg => ?_
    rw [run_addR (xs := []) (by simp) hg]
    simp [Pat.its] at hg ⊢
    exact ⟨sz hz, rfl⟩
  | .row p q, k + 1, h, hz => gl_of fun st => by
    unfold Pat.deep at h
    unfold Pat.items at hz
    rw [List.length_append] at hz
    rw [t_b__law_items]
    simp [b__law_items, Pat.toD, sz, lapE L0_eq, lapE N1_eq, lapE N2_eq, seq_at, lapOf]
    refine (items_ok p k (by omega) (by omega)).run fun n ex hn hg => ?_
    rw [run_addR (xs := []) (by simp) hg]
    simp
    refine ⟨by simp [Pat.its]; exact sz (by omega), ?_⟩
    refine (items_ok q k (by omega) (by omega)).run fun n2 ex2 hn2 hg2 => ?_
    rw [run_addR (xs := p.its f) (by simp) hg2]
    simp [Pat.its, Pat.items]
    exact sz hz
  | .either p q, k + 1, h, hz => gl_of fun st => by
    unfold Pat.deep at h
    unfold Pat.items at hz
    rw [List.length_append] at hz
    rw [t_b__law_items]
    simp [b__law_items, Pat.toD, sz, lapE L0_eq, lapE N1_eq, lapE N2_eq, seq_at, lapOf]
    refine (items_ok p k (by omega) (by omega)).run fun n ex hn hg => ?_
    rw [run_addR (xs := []) (by simp) hg]
    simp
    refine ⟨by simp [Pat.its]; exact sz (by omega), ?_⟩
    refine (items_ok q k (by omega) (by omega)).run fun n2 ex2 hn2 hg2 => ?_
    rw [run_addR (xs := p.its f) (by simp) hg2]
    simp [Pat.its, Pat.items]
    exact sz hz
end K35


namespace K35
open PySem Mx
open L2 (Key)
section
variable {st : S} {Q : D → S → Prop} {n : Nat}
theorem run_maxR {b : Int} {bs : List Int} (h : st[n]? = some (.lst ((b :: bs).map .int))) : Rn (on1 maxD [.ref n]) st Q = Q (.int (maxI (b :: bs))) st := by
  show Rn (lstAt n >>= _) st Q = _
  rw [run_bind, run_some (lstAt_of h), intsOf_map]
  rfl
end
variable {α : Type} [DecidableEq α] (f : α → Str)
theorem run_max1 {st : S} {Q : D → S → Prop} {a : Int} : Rn (on1 maxD [.ref st.length]) (st ++ [.lst [.int a]]) Q = Q (.int a) (st ++ [.lst [.int a]]) := run_maxR (b := a) (bs := []) gn
theorem run_max2 {st : S} {Q : D → S → Prop} {a b : Int} : Rn (on1 maxD [.ref st.length]) (st ++ [.lst [.int a, .int b]]) Q = Q (.int (max a b)) (st ++ [.lst [.int a, .int b]]) := run_maxR (b := a) (bs := [b]) gn
theorem deep_ok : ∀ (p : Pat α) (k : Nat), p.deep ≤ k → Gv (tb k .F_law_deep [p.toD f]) (.int p.deep)
  | p, 0, h => by have := deep_pos p; omega
  | .none, k + 1, h => gv_of fun st => by
    rw [t_b__law_deep]
    simp [b__law_deep, Pat.toD, Pat.deep, sz]
  | .item a, k + 1, h => gv_of fun st => by
    rw [t_b__law_deep]
    simp [b__law_deep, Pat.toD, Pat.deep, sz]
  | .many p, k + 1, h => gv_of fun st => by
    unfold Pat.deep at h
    rw [t_b__law_deep]
    simp [b__law_deep, Pat.toD, Pat.deep, sz, lacE L0_eq, lacE N1_eq, seq_at, lapOf, wipeE]
    refine (deep_ok p k (by omega)).run fun ex => ?_
    simp [sz3]
    rw [run_maxR (b := p.deep) (bs := []) (by simp)]
    simp [maxI]
  | .row p q, k + 1, h => gv_of fun st => by
    unfold Pat.deep at h
    rw [t_b__law_deep]
    simp [b__law_deep, Pat.toD, Pat.deep, sz, lacE L0_eq, lacE N1_eq, lacE N2_eq, seq_at, lapOf, wipeE]
    refine (deep_ok p k (by omega)).run fun ex => ?_
    simp [sz3]
    refine (deep_ok q k (by omega)).run fun ex => ?_
    simp [sz3]
    rw [run_maxR (b := p.deep) (bs := [(q.deep : Int)]) (by simp)]
    simp [maxI]
    omega
  | .either p q, k + 1, h => gv_of fun st => by
    unfold Pat.deep at h
    rw [t_b__law_deep]
    simp [b__law_deep, Pat.toD, Pat.deep, sz, lacE L0_eq, lacE N1_eq, lacE N2_eq, seq_at, lapOf, wipeE]
    refine (deep_ok p k (by omega)).run fun ex => ?_
    simp [sz3]
    refine (deep_ok q k (by omega)).run fun ex => ?_
    simp [sz3]
    rw [run_maxR (b := p.deep) (bs := [(q.deep : Int)]) (by simp)]
    simp [maxI]
    omega
theorem log_ok {n : Int} (h1 : 0 ≤ n) (h2 : n ≤ 1000) : n.natAbs.log2 < 1920 := Nat.lt_of_le_of_lt (Nat.log2_le_self _) (by omega)
theorem numbered_ok : ∀ (p : Pat α) (k : Nat) (n : Int), p.deep + 1 ≤ k → 0 ≤ n → n + p.items.length ≤ 1000 → Gv (tb k .F_law_numbered [p.toD f, .int n]) ((p.num n).toD sI)
  | p, 0, n, h, _, _ => by have := deep_pos p; omega
  | .none, k + 1, n, h, _, _ => gv_of fun st => by
    rw [t_b__law_numbered]
    simp [b__law_numbered, Pat.toD, Pat.num, sz, lapE L0_eq, seq_at, lapOf]
  | .item a, k + 1, n, h, h0, h1 => gv_of fun st => by
    rw [t_b__law_numbered]
    simp [Pat.items] at h1
    simp [b__law_numbered, Pat.toD, Pat.num, sz, log_ok h0 (by omega)]
  | .many p, k + 1, n, h, h0, h1 => gv_of fun st => by
    unfold Pat.deep at h
    unfold Pat.items at h1
    rw [t_b__law_numbered]
    simp [b__law_numbered, Pat.toD, Pat.num, sz, lapE L0_eq, lapE N1_eq, seq_at, lapOf]
    rw [run_isLst gn]
    refine (numbered_ok p k n (by omega) h0 h1).run fun ex => ?_
    rw [run_append (ga gn)]
    refine ⟨sz3 (by simp), ?_⟩
    simp
    refine (items_ok f p k (by omega) (by omega)).run fun m ex2 hm hg => ?_
    rw [run_lenR hg]
    simp
    rw [run_tupR (xs := [.str "many", (p.num n).toD sI]) (by simp)]
    simp
  | .row p q, k + 1, n, h, h0, h1 => gv_of fun st => by
    unfold Pat.deep at h
    simp [Pat.items] at h1
    rw [t_b__law_numbered]
    simp [b__law_numbered, Pat.toD, Pat.num, sz, lapE L0_eq, lapE N1_eq, lapE N2_eq, seq_at, lapOf]
    rw [run_isLst gn]
    refine (numbered_ok p k n (by omega) h0 (by omega)).run fun ex => ?_
    rw [run_append (ga gn)]
    refine ⟨sz3 (by simp), ?_⟩
    simp
    refine (items_ok f p k (by omega) (by omega)).run fun m ex2 hm hg => ?_
    rw [run_lenR hg]
    simp
    rw [run_isLst (xs := [.str "row", (p.num n).toD sI]) (by simp)]
    rw [show (p.its f).length = p.items.length by simp [Pat.its]]
    refine (numbered_ok q k _ (by omega) (by omega) (by omega)).run fun ex3 => ?_
    rw [run_append (xs := [.str "row", (p.num n).toD sI]) (by simp)]
    refine ⟨sz3 (by simp), ?_⟩
    simp
    refine (items_ok f q k (by omega) (by omega)).run fun m ex4 hm hg => ?_
    rw [run_lenR hg]
    simp
    rw [run_tupR (xs := [.str "row", (p.num n).toD sI, (q.num (n + p.items.length)).toD sI]) (by simp)]
    simp
  | .either p q, k + 1, n, h, h0, h1 => gv_of fun st => by
    unfold Pat.deep at h
    simp [Pat.items] at h1
    rw [t_b__law_numbered]
    simp [b__law_numbered, Pat.toD, Pat.num, sz, lapE L0_eq, lapE N1_eq, lapE N2_eq, seq_at, lapOf]
    rw [run_isLst gn]
    refine (numbered_ok p k n (by omega) h0 (by omega)).run fun ex => ?_
    rw [run_append (ga gn)]
    refine ⟨sz3 (by simp), ?_⟩
    simp
    refine (items_ok f p k (by omega) (by omega)).run fun m ex2 hm hg => ?_
    rw [run_lenR hg]
    simp
    rw [run_isLst (xs := [.str "either", (p.num n).toD sI]) (by simp)]
    rw [show (p.its f).length = p.items.length by simp [Pat.its]]
    refine (numbered_ok q k _ (by omega) (by omega) (by omega)).run fun ex3 => ?_
    rw [run_append (xs := [.str "either", (p.num n).toD sI]) (by simp)]
    refine ⟨sz3 (by simp), ?_⟩
    simp
    refine (items_ok f q k (by omega) (by omega)).run fun m ex4 hm hg => ?_
    rw [run_lenR hg]
    simp
    rw [run_tupR (xs := [.str "either", (p.num n).toD sI, (q.num (n + p.items.length)).toD sI]) (by simp)]
    simp
end K35


namespace K35
open PySem Mx
/-! ### what is left of a pattern behind a place -/
namespace Pat
section
variable {α : Type} [DecidableEq α]
def rest (x y : Pat α) : Pat α := if x = .none then y else .row x y
def cn : Pat α → α → Pat α
  | .none, _ => .none
  | .item _, _ => .none
  | .row p q, i => if i ∈ p.items then rest (p.cn i) q else q.cn i
  | .either p q, i => if i ∈ p.items then p.cn i else q.cn i
  | .many p, i => rest (p.cn i) (.many p)
def nds : Pat α → Nat
  | .none => 1
  | .item _ => 1
  | .row p q => 1 + p.nds + q.nds
  | .either p q => 1 + p.nds + q.nds
  | .many p => 1 + p.nds
theorem rest_none {y : Pat α} : rest .none y = y := if_pos rfl
theorem rest_row {x y : Pat α} (h : x ≠ .none) : rest x y = .row x y := if_neg h
theorem rest_hollow {x y : Pat α} : (rest x y).hollow = (x.hollow && y.hollow) := by
  unfold rest
  split
  · rename_i h; subst h; rfl
  · rfl
theorem rest_deep {x y : Pat α} : (rest x y).deep ≤ 1 + max x.deep y.deep := by
  unfold rest
  split
  · omega
  · exact Nat.le_refl _
theorem rest_nds {x y : Pat α} : (rest x y).nds ≤ 1 + x.nds + y.nds := by
  unfold rest
  split
  · omega
  · exact Nat.le_refl _
theorem rest_items {x y : Pat α} {a : α} (h : a ∈ (rest x y).items) : a ∈ x.items ∨ a ∈ y.items := by
  unfold rest at h
  split at h
  · exact .inr h
  · exact List.mem_append.mp h
theorem cn_row {p q : Pat α} {i : α} : (Pat.row p q).cn i = if i ∈ p.items then rest (p.cn i) q else q.cn i := rfl
theorem cn_either {p q : Pat α} {i : α} : (Pat.either p q).cn i = if i ∈ p.items then p.cn i else q.cn i := rfl
theorem cn_many {p : Pat α} {i : α} : (Pat.many p).cn i = rest (p.cn i) (.many p) := rfl
theorem cn_items {i a : α} : ∀ {p : Pat α}, a ∈ (p.cn i).items → a ∈ p.items
  | .none, h => h
  | .item _, h => by cases h
  | .row p q, h => by
    rw [cn_row] at h
    refine List.mem_append.mpr ?_
    split at h
    · rcases rest_items h with h | h
      · exact .inl (cn_items h)
      · exact .inr h
    · exact .inr (cn_items h)
  | .either p q, h => by
    rw [cn_either] at h
    refine List.mem_append.mpr ?_
    split at h
    · exact .inl (cn_items h)
    · exact .inr (cn_items h)
  | .many p, h => by
    rw [cn_many] at h
    rcases rest_items h with h | h
    · exact cn_items (p := p) h
    · exact h
theorem cn_deep {i : α} : ∀ p : Pat α, (p.cn i).deep ≤ p.deep + 1
  | .none => by show 1 ≤ 1 + 1; decide
  | .item _ => by show 1 ≤ 1 + 1; decide
  | .row p q => by
    have h1 := cn_deep (i := i) p
    have h2 := cn_deep (i := i) q
    have h3 := rest_deep (x := p.cn i) (y := q)
    rw [cn_row]
    show _ ≤ 1 + max p.deep q.deep + 1
    split <;> omega
  | .either p q => by
    have h1 := cn_deep (i := i) p
    have h2 := cn_deep (i := i) q
    rw [cn_either]
    show _ ≤ 1 + max p.deep q.deep + 1
    split <;> omega
  | .many p => by
    have h1 := cn_deep (i := i) p
    have h3 := rest_deep (x := p.cn i) (y := .many p)
    rw [cn_many]
    have : (Pat.many p).deep = 1 + p.deep := rfl
    omega
theorem nds_pos : ∀ p : Pat α, 1 ≤ p.nds := fun p => by cases p <;> simp [nds] <;> omega
theorem cn_nds {i : α} : ∀ p : Pat α, (p.cn i).nds ≤ p.deep * p.nds
  | .none => by show 1 ≤ 1 * 1; decide
  | .item _ => by show 1 ≤ 1 * 1; decide
  | .row p q => by
    have h1 := cn_nds (i := i) p
    have h2 := cn_nds (i := i) q
    have h3 := rest_nds (x := p.cn i) (y := q)
    rw [cn_row]
    show _ ≤ (1 + max p.deep q.deep) * (1 + p.nds + q.nds)
    rw [Nat.add_mul, Nat.one_mul, Nat.mul_add, Nat.mul_add]
    have e1 : p.deep * p.nds ≤ max p.deep q.deep * p.nds := Nat.mul_le_mul_right _ (Nat.le_max_left ..)
    have e2 : q.deep * q.nds ≤ max p.deep q.deep * q.nds := Nat.mul_le_mul_right _ (Nat.le_max_right ..)
    split <;> omega
  | .either p q => by
    have h1 := cn_nds (i := i) p
    have h2 := cn_nds (i := i) q
    rw [cn_either]
    show _ ≤ (1 + max p.deep q.deep) * (1 + p.nds + q.nds)
    rw [Nat.add_mul, Nat.one_mul, Nat.mul_add, Nat.mul_add]
    have e1 : p.deep * p.nds ≤ max p.deep q.deep * p.nds := Nat.mul_le_mul_right _ (Nat.le_max_left ..)
    have e2 : q.deep * q.nds ≤ max p.deep q.deep * q.nds := Nat.mul_le_mul_right _ (Nat.le_max_right ..)
    split <;> omega
  | .many p => by
    have h1 := cn_nds (i := i) p
    have h3 := rest_nds (x := p.cn i) (y := .many p)
    have h4 : 1 ≤ p.deep := by cases p <;> simp [deep]
    rw [cn_many]
    have e1 : (Pat.many p).nds = 1 + p.nds := rfl
    show _ ≤ (1 + p.deep) * (1 + p.nds)
    rw [Nat.add_mul, Nat.one_mul, Nat.mul_add]
    omega
theorem nds_le : ∀ p : Pat α, p.nds < 2 ^ p.deep
  | .none => by show 1 < 2 ^ 1; decide
  | .item _ => by show 1 < 2 ^ 1; decide
  | .row p q => by
    have h1 := nds_le p
    have h2 := nds_le q
    have e1 : 2 ^ p.deep ≤ 2 ^ max p.deep q.deep := Nat.pow_le_pow_right (by decide) (Nat.le_max_left ..)
    have e2 : 2 ^ q.deep ≤ 2 ^ max p.deep q.deep := Nat.pow_le_pow_right (by decide) (Nat.le_max_right ..)
    show 1 + p.nds + q.nds < 2 ^ (1 + max p.deep q.deep)
    rw [Nat.pow_add]
    omega
  | .either p q => by
    have h1 := nds_le p
    have h2 := nds_le q
    have e1 : 2 ^ p.deep ≤ 2 ^ max p.deep q.deep := Nat.pow_le_pow_right (by decide) (Nat.le_max_left ..)
    have e2 : 2 ^ q.deep ≤ 2 ^ max p.deep q.deep := Nat.pow_le_pow_right (by decide) (Nat.le_max_right ..)
    show 1 + p.nds + q.nds < 2 ^ (1 + max p.deep q.deep)
    rw [Nat.pow_add]
    omega
  | .many p => by
    have h1 := nds_le p
    have : 1 ≤ 2 ^ p.deep := Nat.one_le_two_pow
    show 1 + p.nds < 2 ^ (1 + p.deep)
    rw [Nat.pow_add]
    omega
theorem fst_row {p q : Pat α} : (Pat.row p q).fst = p.fst ++ if p.hollow then q.fst else [] := rfl
theorem lst_row {p q : Pat α} : (Pat.row p q).lst = q.lst ++ if q.hollow then p.lst else [] := rfl
theorem fol_row' {p q : Pat α} {i : α} : (Pat.row p q).fol i = p.fol i ++ q.fol i ++ if i ∈ p.lst then q.fst else [] := rfl
theorem fol_many' {p : Pat α} {i : α} : (Pat.many p).fol i = p.fol i ++ if i ∈ p.lst then p.fst else [] := rfl
theorem cn_hollow {i : α} : ∀ {p : Pat α}, p.items.Nodup → i ∈ p.items → (p.cn i).hollow = decide (i ∈ p.lst)
  | .none, _, h => by cases h
  | .item a, _, h => by
    show true = decide (i ∈ [a])
    simpa [Pat.items] using h
  | .row p q, hn, h => by
    obtain ⟨n1, n2, n3⟩ := List.nodup_append.mp (show (p.items ++ q.items).Nodup from hn)
    rw [cn_row, lst_row]
    by_cases hp : i ∈ p.items
    · have hq : i ∉ q.lst := fun z => n3 i hp i (lst_sub z) rfl
      rw [if_pos hp, rest_hollow, cn_hollow n1 hp]
      cases q.hollow <;> simp [hq]
    · have hq : i ∈ q.items := (List.mem_append.mp h).resolve_left hp
      have hl : i ∉ p.lst := fun z => hp (lst_sub z)
      rw [if_neg hp, cn_hollow n2 hq]
      cases q.hollow <;> simp [hl]
  | .either p q, hn, h => by
    obtain ⟨n1, n2, n3⟩ := List.nodup_append.mp (show (p.items ++ q.items).Nodup from hn)
    rw [cn_either]
    show _ = decide (i ∈ p.lst ++ q.lst)
    by_cases hp : i ∈ p.items
    · have hq : i ∉ q.lst := fun z => n3 i hp i (lst_sub z) rfl
      rw [if_pos hp, cn_hollow n1 hp]
      simp [hq]
    · have hq : i ∈ q.items := (List.mem_append.mp h).resolve_left hp
      have hl : i ∉ p.lst := fun z => hp (lst_sub z)
      rw [if_neg hp, cn_hollow n2 hq]
      simp [hl]
  | .many p, hn, h => by
    rw [cn_many, rest_hollow, cn_hollow (p := p) hn h]
    show (decide (i ∈ p.lst) && true) = decide (i ∈ p.lst)
    simp
theorem cn_none {i : α} : ∀ {p : Pat α}, p.items.Nodup → i ∈ p.items → p.cn i = .none → p.fol i = []
  | .none, _, h, _ => by cases h
  | .item a, _, _, _ => rfl
  | .row p q, hn, h, e => by
    obtain ⟨n1, n2, n3⟩ := List.nodup_append.mp (show (p.items ++ q.items).Nodup from hn)
    rw [cn_row] at e
    rw [fol_row']
    by_cases hp : i ∈ p.items
    · rw [if_pos hp] at e
      have hq : q.fol i = [] := fol_nil fun z => n3 i hp i z rfl
      unfold rest at e
      split at e
      · rename_i e2
        subst e
        rw [cn_none n1 hp e2]
        simp [Pat.fst, Pat.fol]
      · cases e
    · rw [if_neg hp] at e
      have hq : i ∈ q.items := (List.mem_append.mp h).resolve_left hp
      have hl : i ∉ p.lst := fun z => hp (lst_sub z)
      rw [cn_none n2 hq e, fol_nil hp, if_neg hl]
      rfl
  | .either p q, hn, h, e => by
    obtain ⟨n1, n2, n3⟩ := List.nodup_append.mp (show (p.items ++ q.items).Nodup from hn)
    rw [cn_either] at e
    show p.fol i ++ q.fol i = []
    by_cases hp : i ∈ p.items
    · rw [if_pos hp] at e
      rw [cn_none n1 hp e, fol_nil (p := q) fun z => n3 i hp i z rfl]
      rfl
    · rw [if_neg hp] at e
      have hq : i ∈ q.items := (List.mem_append.mp h).resolve_left hp
      rw [cn_none n2 hq e, fol_nil hp]
      rfl
  | .many p, hn, h, e => by
    rw [cn_many] at e
    unfold rest at e
    split at e <;> cases e
end
end Pat
end K35


namespace K35
open PySem Mx
open L2 (Key)
/-! ### rules for lists of the store -/
section
variable {st : S} {Q : D → S → Prop} {xs ys : List D} {n m : Nat}
theorem run_ixR {i : Int} (h : st[n]? = some (.lst xs)) : Rn (ixD (.ref n) (.int i)) st Q = Rn (ofO (L2.atI xs i)) st Q := rn_congr (by
  show ixRef n (.int i) st = _
  unfold ixRef
  rw [h]
  rfl)
theorem run_slR {lo hi : Option Int} (h : st[n]? = some (.lst xs)) : Rn (slD (.ref n) lo hi) st Q = Q (.ref st.length) (st ++ [.lst (cutD xs lo hi)]) := by
  show Rn (lstAt n >>= _) st Q = _
  rw [run_bind, run_some (lstAt_of h)]
  rfl
theorem run_ninDeep {x : D} {p : PyData} {qs : List PyData} (h : st[n]? = some (.lst ys)) (hx : flatD x = false) (hp : toPy st 64 x = some p) (hq : mapO (toPy st 63) ys = some qs) : Rn (ninO x (.ref n)) st Q = Q (.bl (!(qs.any fun q => PyData.eqv q p))) st := by
  have e : inRef x n st = some (qs.any fun q => PyData.eqv q p, st) := by
    unfold inRef
    rw [h]
    simp only [hx, Bool.false_and]
    show inDeep x ys st = _
    unfold inDeep
    rw [hp, hq]
  unfold ninO
  rw [run_blM, run_bind]
  refine (run_some e).trans ?_
  rfl
end
/-- data that == takes wherever, one deep in a list too -/
def Pv (d : D) : Prop := (toPy [] 63 d).isSome = true
theorem Pv.get {d : D} (h : Pv d) : ∃ p, PyData.eqv p p = true ∧ (∀ st, toPy st 63 d = some p) ∧ ∀ st, toPy st 64 d = some p := by
  obtain ⟨p, e⟩ := Option.isSome_iff_exists.mp h
  exact ⟨p, toPy_refl e, fun st => toPy_pure e (Nat.le_refl _), fun st => toPy_pure e (by decide)⟩
theorem Pv.pu {d : D} (h : Pv d) : Pu d := by
  obtain ⟨p, _, _, e⟩ := h.get
  unfold Pu
  rw [e]
  rfl
section
variable {st : S} {Q : D → S → Prop} {n : Nat} {x : D}
theorem cut0 {ds : List D} : cutD ds none (some 0) = [] := by simp [cutD, HT.sIx]
theorem cut1 {d : D} {ds : List D} : cutD (d :: ds) none (some 1) = [d] := by simp [cutD, HT.sIx]
/-- the comprehension that keeps each once -/
theorem keep0 {a b c d : Option D} (h : st[n]? = some (.lst [])) (q : ∀ s ex, s = st ++ ex → ∀ m, st.length ≤ m → s[m]? = some (.lst []) → Q (.ref m) s) :
    Rn (lcD L0 [3] (rng1S (callD (on1 lenD) (consA (varD 2) nilA))) (nameG 3) (tstD (opD ninO (opD ixD (varD 2) (varD 3)) (sliD (varD 2) .no (.at (varD 3))))) (opD ixD (varD 2) (varD 3)) [a, b, some (.ref n), c, d]) st Q := by
  simp [wipeE, run_lenR h, small, lacE L0_eq, rng_at, Pat.run, lapOf]
  exact ⟨by decide, q _ _ rfl _ (Nat.le_refl _) gn⟩
theorem keep1 {a b c d : Option D} (hx : Pv x) (hf : flatD x = false) (h : st[n]? = some (.lst [x])) (q : ∀ s ex, s = st ++ ex → ∀ m, st.length ≤ m → s[m]? = some (.lst [x]) → Q (.ref m) s) :
    Rn (lcD L0 [3] (rng1S (callD (on1 lenD) (consA (varD 2) nilA))) (nameG 3) (tstD (opD ninO (opD ixD (varD 2) (varD 3)) (sliD (varD 2) .no (.at (varD 3))))) (opD ixD (varD 2) (varD 3)) [a, b, some (.ref n), c, d]) st Q := by
  obtain ⟨p, ep, e63, e64⟩ := hx.get
  simp [wipeE, run_lenR h, small, lacE L0_eq, lacE N1_eq, rng_at, Pat.run, lapOf, run_ixR h, run_slR h, cut0]
  refine ⟨by decide, ?_⟩
  rw [run_ninDeep gn hf (e64 _) rfl]
  simp [run_ixR (ga h)]
  exact ⟨sz3 (by decide), q _ _ rfl _ (by simp) (by simp)⟩
theorem keep2 {a b c d : Option D} (hx : Pv x) (hf : flatD x = false) (h : st[n]? = some (.lst [x, x])) (q : ∀ s ex, s = st ++ ex → ∀ m, st.length ≤ m → s[m]? = some (.lst [x]) → Q (.ref m) s) :
    Rn (lcD L0 [3] (rng1S (callD (on1 lenD) (consA (varD 2) nilA))) (nameG 3) (tstD (opD ninO (opD ixD (varD 2) (varD 3)) (sliD (varD 2) .no (.at (varD 3))))) (opD ixD (varD 2) (varD 3)) [a, b, some (.ref n), c, d]) st Q := by
  obtain ⟨p, ep, e63, e64⟩ := hx.get
  simp [wipeE, run_lenR h, small, lacE L0_eq, lacE N1_eq, lacE N2_eq, rng_at, Pat.run, lapOf, run_ixR h, run_slR h, cut0]
  refine ⟨by decide, ?_⟩
  rw [run_ninDeep gn hf (e64 _) rfl]
  simp [run_ixR (ga h)]
  refine ⟨sz3 (by decide), ?_⟩
  rw [run_slR (ga h), cut1, run_ninDeep gn hf (e64 _) (qs := [p]) (by unfold mapO; rw [e63]; rfl)]
  simp [ep]
  exact q _ _ (by simp; rfl) _ (by simp) (by simp)
end
end K35


namespace K35
open PySem Mx
open L2 (Key)
def Pat.hd {α : Type} : Pat α → Str
  | .none => "none"
  | .item _ => "item"
  | .row _ _ => "row"
  | .either _ _ => "either"
  | .many _ => "many"
section
variable {α : Type} [DecidableEq α] (f : α → Str)
def Ok (p : Pat α) : Prop := ∀ a ∈ p.items, PyData.strOk (f a) = true
theorem toPy_pat : ∀ (p : Pat α) (n : Nat), p.deep + 1 ≤ n → Ok f p → ∃ ps, toPy [] n (p.toD f) = some (.tuple (.str p.hd :: ps))
  | p, 0, h, _ => by omega
  | p, 1, h, _ => by have := deep_pos p; omega
  | .none, n + 2, h, ho => ⟨[], by unfold Pat.toD toPy mapO mapO; rw [toPy_str ok_none]; rfl⟩
  | .item a, n + 2, h, ho => ⟨[.str (f a)], by
    unfold Pat.toD toPy mapO mapO mapO
    rw [toPy_str ok_item, toPy_str (ho a (List.mem_cons_self ..))]
    rfl⟩
  | .many p, n + 2, h, ho => by
    obtain ⟨ps, e⟩ := toPy_pat p (n + 1) (by unfold Pat.deep at h; omega) ho
    refine ⟨[.tuple (.str p.hd :: ps)], ?_⟩
    unfold Pat.toD toPy mapO mapO mapO
    rw [toPy_str ok_many, e]
    rfl
  | .row p q, n + 2, h, ho => by
    unfold Pat.deep at h
    obtain ⟨ps, e⟩ := toPy_pat p (n + 1) (by omega) (fun a ha => ho a (List.mem_append_left _ ha))
    obtain ⟨ps2, e2⟩ := toPy_pat q (n + 1) (by omega) (fun a ha => ho a (List.mem_append_right _ ha))
    refine ⟨[.tuple (.str p.hd :: ps), .tuple (.str q.hd :: ps2)], ?_⟩
    unfold Pat.toD toPy mapO mapO mapO mapO
    rw [toPy_str ok_row, e, e2]
    rfl
  | .either p q, n + 2, h, ho => by
    unfold Pat.deep at h
    obtain ⟨ps, e⟩ := toPy_pat p (n + 1) (by omega) (fun a ha => ho a (List.mem_append_left _ ha))
    obtain ⟨ps2, e2⟩ := toPy_pat q (n + 1) (by omega) (fun a ha => ho a (List.mem_append_right _ ha))
    refine ⟨[.tuple (.str p.hd :: ps), .tuple (.str q.hd :: ps2)], ?_⟩
    unfold Pat.toD toPy mapO mapO mapO mapO
    rw [toPy_str ok_either, e, e2]
    rfl
theorem pv_pat {p : Pat α} (h : p.deep ≤ 60) (ho : Ok f p) : Pv (p.toD f) := by
  obtain ⟨ps, e⟩ := toPy_pat f p 63 (by omega) ho
  unfold Pv
  rw [e]
  rfl
theorem hd_none : ∀ p : Pat α, decide (p.hd = "none") = decide (p = .none)
  | .none => by simp [Pat.hd]
  | .item _ => by rw [show decide ((Pat.item _ : Pat α).hd = "none") = decide (("item" : Str) = "none") from rfl, show decide (("item" : Str) = "none") = false by decide +kernel]; simp
  | .row _ _ => by rw [show decide ((Pat.row _ _ : Pat α).hd = "none") = decide (("row" : Str) = "none") from rfl, show decide (("row" : Str) = "none") = false by decide +kernel]; simp
  | .either _ _ => by rw [show decide ((Pat.either _ _ : Pat α).hd = "none") = decide (("either" : Str) = "none") from rfl, show decide (("either" : Str) = "none") = false by decide +kernel]; simp
  | .many _ => by rw [show decide ((Pat.many _ : Pat α).hd = "none") = decide (("many" : Str) = "none") from rfl, show decide (("many" : Str) = "none") = false by decide +kernel]; simp
theorem q_none {p : Pat α} (h : p.deep ≤ 60) (ho : Ok f p) {st : S} {Q : D → S → Prop} : Rn (eqO (p.toD f) (.tup [.str "none"])) st Q = Q (.bl (decide (p = .none))) st := by
  by_cases hp : p = .none
  · subst hp
    rw [show (.tup [.str "none"] : D) = (Pat.none : Pat α).toD f from rfl, run_eqr (pv_pat f h ho).pu]
    simp
  · obtain ⟨ps, e⟩ := toPy_pat f p 64 (by omega) ho
    obtain ⟨ps2, e2⟩ := toPy_pat f (Pat.none : Pat α) 64 (by show 1 + 1 ≤ 64; decide) (fun a ha => by cases ha)
    have e3 : toPy st 64 (.tup [.str "none"]) = some (.tuple [.str "none"]) := by unfold toPy mapO mapO; rw [toPy_str ok_none]
    rw [run_eqO, toPy_pure e (Nat.le_refl _), e3]
    show Q (.bl (PyData.eqv (.tuple (.str p.hd :: ps)) (.tuple [.str "none"]))) st = _
    rw [PyData.eqv, PyData.eqvAll, PyData.eqv]
    have : (p.hd == "none") = false := by
      have := hd_none p
      simp [hp] at this
      simpa using this
    simp [this, hp]
theorem rest_ok {x y : Pat α} (k : Nat) (h : x.deep ≤ 60) (ho : Ok f x) : Gv (tb (k + 1) .F_law_rest [x.toD f, y.toD f]) ((Pat.rest x y).toD f) := gv_of fun st => by
  rw [t_b__law_rest]
  simp [b__law_rest, sz]
  rw [q_none f h ho]
  by_cases hp : x = .none
  · simp [hp, Pat.rest_none]
  · simp [hp, Pat.rest_row hp, Pat.toD, sz]
end
theorem sI_ok : ∀ i : Fin 8, PyData.strOk (sI i.val) = true := by decide +kernel
theorem sI_ne : ∀ i j : Fin 8, (sI i.val == sI j.val) = decide (i = j) := by decide +kernel
def It (p : Pat Int) : Prop := ∀ a ∈ p.items, 0 ≤ a ∧ a < 8
theorem It.ok {p : Pat Int} (h : It p) : Ok sI p := fun a ha => by
  obtain ⟨h1, h2⟩ := h a ha
  have := sI_ok ⟨a.toNat, by omega⟩
  rwa [show ((⟨a.toNat, by omega⟩ : Fin 8).val : Int) = a by simp; omega] at this
theorem sI_beq {i j : Int} (hi : 0 ≤ i ∧ i < 8) (hj : 0 ≤ j ∧ j < 8) : (sI i == sI j) = decide (i = j) := by
  have := sI_ne ⟨i.toNat, by omega⟩ ⟨j.toNat, by omega⟩
  rw [show ((⟨i.toNat, by omega⟩ : Fin 8).val : Int) = i by simp; omega, show ((⟨j.toNat, by omega⟩ : Fin 8).val : Int) = j by simp; omega] at this
  rw [this]
  simp
  omega
def opt (o : Option (Pat Int)) : List D := match o with
  | none => []
  | some x => [x.toD sI]
theorem flat_pat {α : Type} {f : α → Str} (p : Pat α) : flatD (p.toD f) = false := by cases p <;> rfl
abbrev lot (j : Int) : D := .tup [.str (sI j)]
theorem beh_none (k : Nat) (j : Int) : Gn (tb (k + 1) .F_law_behind_item [Pat.toD sI .none, lot j]) [] := gl_of fun st => by
  rw [t_b__law_behind_item]
  simp [b__law_behind_item, Pat.toD, sz]
theorem beh_item (k : Nat) {i j : Int} (hi : 0 ≤ i ∧ i < 8) (hj : 0 ≤ j ∧ j < 8) : Gn (tb (k + 1) .F_law_behind_item [Pat.toD sI (.item i), lot j]) (if i = j then [Pat.toD sI .none] else []) := gl_of fun st => by
  rw [t_b__law_behind_item]
  have e := sI_beq hj hi
  by_cases h : i = j
  · simp [b__law_behind_item, Pat.toD, sz, e, h]
  · simp [b__law_behind_item, Pat.toD, sz, e, h, Ne.symm h]
theorem beh_many (k : Nat) (p : Pat Int) (j : Int) (o : Option (Pat Int)) (ho : ∀ x, o = some x → It x ∧ x.deep ≤ 50) (hp : It p ∧ p.deep ≤ 50) (ih : Gn (tb (k + 1) .F_law_behind_item [p.toD sI, lot j]) (opt o)) :
    Gn (tb (k + 2) .F_law_behind_item [(Pat.many p).toD sI, lot j]) (opt (o.map fun x => Pat.rest x (.many p))) := gl_of fun st => by
  rw [t_b__law_behind_item]
  simp [b__law_behind_item, Pat.toD, -run_lc]
  rw [run_lc]
  simp [-run_lc]
  refine ih.run fun n ex hn hg => ?_
  rw [run_live hg]
  cases o with
  | none =>
    have hg' : (st ++ ex)[n]? = some (.lst []) := hg
    simp [wipeE, lacE L0_eq, live_at hg', lapOf, -run_lc]
    refine keep0 ?_ ?_
    · simp
    intro s ex2 hs m hm hgm
    refine ⟨m, rfl, ⟨ex ++ ([.lst []] ++ ex2), by rw [hs]; simp⟩, by simp at hm; omega, hgm⟩
  | some x =>
    obtain ⟨hx1, hx2⟩ := ho x rfl
    have hg' : (st ++ ex)[n]? = some (.lst [x.toD sI]) := hg
    simp [wipeE, lacE L0_eq, lacE N1_eq, live_at hg', lapOf, -run_lc]
    refine (rest_ok sI (y := .many p) k (by omega) hx1.ok).run fun ex2 => ?_
    simp [sz3, live_at (getApp hg' ex2), lapOf, -run_lc]
    have hr : It (Pat.rest x (.many p)) := fun a ha => (Pat.rest_items ha).elim (hx1 a) (hp.1 a)
    refine keep1 (pv_pat sI (by have := Pat.rest_deep (x := x) (y := .many p); have : (Pat.many p).deep = 1 + p.deep := rfl; omega) hr.ok) (flat_pat _) ?_ ?_
    · simp
    intro s ex3 hs m hm hgm
    refine ⟨m, rfl, ⟨ex ++ (ex2 ++ ([.lst [(Pat.rest x (.many p)).toD sI]] ++ ex3)), by rw [hs]; simp⟩, by simp at hm; omega, hgm⟩
end K35


namespace K35
open PySem Mx
open L2 (Key)
def Fit (x : Pat Int) : Prop := It x ∧ x.deep ≤ 50
/-- of two finds one, if they never differ -/
def both (o o2 : Option (Pat Int)) : Option (Pat Int) := match o with
  | some x => some x
  | none => o2
/-- what stands behind: two lists joined, each kept once -/
theorem keepB {st : S} {Q : D → S → Prop} {n : Nat} {a b c d : Option D} (o o2 : Option (Pat Int)) (h1 : ∀ x, o = some x → Pv (x.toD sI)) (h2 : ∀ x, o2 = some x → Pv (x.toD sI)) (hs : ∀ x y, o = some x → o2 = some y → x = y)
    (h : st[n]? = some (.lst (opt o ++ opt o2))) (q : ∀ s ex, s = st ++ ex → ∀ m, st.length ≤ m → s[m]? = some (.lst (opt (both o o2))) → Q (.ref m) s) :
    Rn (lcD L0 [3] (rng1S (callD (on1 lenD) (consA (varD 2) nilA))) (nameG 3) (tstD (opD ninO (opD ixD (varD 2) (varD 3)) (sliD (varD 2) .no (.at (varD 3))))) (opD ixD (varD 2) (varD 3)) [a, b, some (.ref n), c, d]) st Q := by
  cases o with
  | none => cases o2 with
    | none => exact keep0 h q
    | some y => exact keep1 (h2 y rfl) (flat_pat y) h q
  | some x => cases o2 with
    | none => exact keep1 (h1 x rfl) (flat_pat x) h q
    | some y =>
      have := hs x y rfl rfl
      subst this
      exact keep2 (h1 x rfl) (flat_pat x) h q
theorem opt_len (o : Option (Pat Int)) : (opt o).length ≤ 1 := by cases o <;> simp [opt]
theorem beh_either (k : Nat) (p p2 : Pat Int) (j : Int) (o o2 : Option (Pat Int)) (h1 : ∀ x, o = some x → Fit x) (h2 : ∀ x, o2 = some x → Fit x) (hs : ∀ x y, o = some x → o2 = some y → x = y)
    (ih : Gn (tb k .F_law_behind_item [p.toD sI, lot j]) (opt o)) (ih2 : Gn (tb k .F_law_behind_item [p2.toD sI, lot j]) (opt o2)) :
    Gn (tb (k + 1) .F_law_behind_item [(Pat.either p p2).toD sI, lot j]) (opt (both o o2)) := gl_of fun st => by
  rw [t_b__law_behind_item]
  simp [b__law_behind_item, Pat.toD, -run_lc]
  refine ih.run fun n ex hn hg => ?_
  refine ih2.run fun n2 ex2 hn2 hg2 => ?_
  rw [run_addR (ga hg) hg2]
  refine ⟨sz2 (by have := opt_len o; have := opt_len o2; omega), ?_⟩
  simp [-run_lc]
  refine keepB o o2 (fun x e => pv_pat sI (by have := (h1 x e).2; omega) (h1 x e).1.ok) (fun x e => pv_pat sI (by have := (h2 x e).2; omega) (h2 x e).1.ok) hs ?_ ?_
  · simp
  intro s ex3 hs m hm hgm
  exact ⟨m, rfl, ⟨ex ++ (ex2 ++ ([.lst (opt o ++ opt o2)] ++ ex3)), by rw [hs]; simp⟩, by simp at hm; omega, hgm⟩
theorem beh_row (k : Nat) (p p2 : Pat Int) (j : Int) (o o2 : Option (Pat Int)) (h1 : ∀ x, o = some x → Fit x) (h2 : ∀ x, o2 = some x → Fit x) (hp : Fit p2) (hs : ∀ x y, o.map (fun x => Pat.rest x p2) = some x → (if p.hollow then o2 else none) = some y → x = y) (hd : p.deep ≤ k + 1)
    (ih : Gn (tb (k + 1) .F_law_behind_item [p.toD sI, lot j]) (opt o)) (ih2 : p.hollow = true → Gn (tb (k + 1) .F_law_behind_item [p2.toD sI, lot j]) (opt o2)) :
    Gn (tb (k + 2) .F_law_behind_item [(Pat.row p p2).toD sI, lot j]) (opt (both (o.map fun x => Pat.rest x p2) (if p.hollow then o2 else none))) := gl_of fun st => by
  have hr : ∀ x, o.map (fun x => Pat.rest x p2) = some x → Pv (x.toD sI) := fun x e => by
    cases o with
    | none => cases e
    | some y =>
      cases e
      obtain ⟨e1, e2⟩ := h1 y rfl
      have := Pat.rest_deep (x := y) (y := p2)
      have e3 := hp.2
      exact pv_pat sI (p := Pat.rest y p2) (by omega) (It.ok fun a ha => (Pat.rest_items ha).elim (e1 a) (hp.1 a))
  have hr2 : ∀ x, (if p.hollow then o2 else none) = some x → Pv (x.toD sI) := fun x e => by
    split at e
    · exact pv_pat sI (by have := (h2 x e).2; omega) (h2 x e).1.ok
    · cases e
  rw [t_b__law_behind_item]
  simp [b__law_behind_item, Pat.toD, -run_lc]
  rw [run_lc]
  simp [-run_lc]
  refine ih.run fun n ex hn hg => ?_
  rw [run_live hg]
  have first : Rn (lapC (Src.live n) (nameG 4) yesT (callD (tb (k + 1) .F_law_rest) (consA (varD 4) (consA (opD ixD (varD 0) (cD (.int 2))) nilA))) (wipeE [some (.tup [.str "row", p.toD sI, p2.toD sI]), some (lot j), none, none, none] [4]) L0 0 []) (st ++ ex) fun ds s => ds = opt (o.map fun x => Pat.rest x p2) ∧ ∃ ex2, s = st ++ (ex ++ ex2) := by
    cases o with
    | none =>
      have hg' : (st ++ ex)[n]? = some (.lst []) := hg
      simp [wipeE, lacE L0_eq, live_at hg', lapOf, opt]
    | some x =>
      obtain ⟨hx1, hx2⟩ := h1 x rfl
      have hg' : (st ++ ex)[n]? = some (.lst [x.toD sI]) := hg
      simp [wipeE, lacE L0_eq, lacE N1_eq, live_at hg', lapOf]
      refine (rest_ok sI (y := p2) k (by omega) hx1.ok).run fun ex2 => ?_
      simp [sz3, live_at (getApp hg' ex2), lapOf, opt]
  refine first.mono fun ds s ⟨hds, ex2, hs2⟩ => ?_
  subst hds hs2
  simp [-run_lc]
  refine (hollow_ok sI p (k + 1) hd).run fun ex3 => ?_
  simp [-run_lc]
  have lo := opt_len (o.map fun x => Pat.rest x p2)
  cases hh : p.hollow with
  | false =>
    simp [-run_lc]
    rw [run_addR (xs := opt (o.map fun x => Pat.rest x p2)) (ys := []) (by simp) (by simp)]
    refine ⟨sz2 (by simp; omega), ?_⟩
    simp [-run_lc]
    refine keepB (o.map fun x => Pat.rest x p2) none hr (fun x e => by cases e) (fun x y _ e => by cases e) ?_ ?_
    · simp [opt]
    intro s ex5 hs5 m hm hgm
    exact ⟨m, rfl, ⟨_, by rw [hs5]; simp; rfl⟩, by simp at hm; omega, hgm⟩
  | true =>
    rw [hh] at hr2 hs
    simp [-run_lc]
    refine (ih2 hh).run fun n3 ex4 hn3 hg3 => ?_
    rw [run_addR (xs := opt (o.map fun x => Pat.rest x p2)) (by simp) hg3]
    have lo2 := opt_len o2
    refine ⟨sz2 (by omega), ?_⟩
    simp [-run_lc]
    refine keepB (o.map fun x => Pat.rest x p2) o2 hr hr2 hs ?_ ?_
    · simp
    intro s ex5 hs5 m hm hgm
    exact ⟨m, rfl, ⟨_, by rw [hs5]; simp; rfl⟩, by simp at hm; omega, hgm⟩
end K35


namespace K35
open PySem Mx
open L2 (Key)
open Pat (rest cn fst_sub lst_sub fol_sub fol_nil cn_row cn_either cn_many cn_hollow cn_none rest_none rest_row cn_items cn_deep fst_row fol_row' fol_many')
theorem It.l {p q : Pat Int} (h : It (.row p q)) : It p := fun a ha => h a (List.mem_append_left _ ha)
theorem It.r {p q : Pat Int} (h : It (.row p q)) : It q := fun a ha => h a (List.mem_append_right _ ha)
theorem It.l' {p q : Pat Int} (h : It (.either p q)) : It p := fun a ha => h a (List.mem_append_left _ ha)
theorem It.r' {p q : Pat Int} (h : It (.either p q)) : It q := fun a ha => h a (List.mem_append_right _ ha)
theorem It.cn {p : Pat Int} {i : Int} (h : It p) : It (p.cn i) := fun a ha => h a (cn_items ha)
theorem cast {k : Nat} {x : Pat Int} {j : Int} {o o' : Option (Pat Int)} (h : Gn (tb k .F_law_behind_item [x.toD sI, lot j]) (opt o)) (e : o = o') : Gn (tb k .F_law_behind_item [x.toD sI, lot j]) (opt o') := e ▸ h
theorem behA : ∀ (p : Pat Int) (k : Nat) (j : Int), p.items.Nodup → It p → p.deep ≤ 49 → (0 ≤ j ∧ j < 8) → p.deep + 1 ≤ k → Gn (tb k .F_law_behind_item [p.toD sI, lot j]) (opt (if j ∈ p.fst then some (p.cn j) else none))
  | p, 0, j, _, _, _, _, h => by omega
  | p, 1, j, _, _, _, _, h => by have := deep_pos p; omega
  | .none, k + 2, j, _, _, _, _, _ => beh_none _ j
  | .item a, k + 2, j, _, hi, _, hj, _ => by
    have e := beh_item (k + 1) (hi a (List.mem_cons_self ..)) hj
    show Gn _ (opt (if j ∈ [a] then some .none else none))
    by_cases h : a = j
    · simpa [h, opt] using e
    · simpa [h, Ne.symm h, opt] using e
  | .many p, k + 2, j, hn, hi, hd, hj, hk => by
    have e1 : (Pat.many p).deep = 1 + p.deep := rfl
    have ih := behA p (k + 1) j hn hi (by omega) hj (by omega)
    refine cast (beh_many k p j _ (fun x e => ?_) ⟨hi, by omega⟩ ih) ?_
    · split at e
      · cases e; exact ⟨It.cn hi, by have := cn_deep (i := j) p; omega⟩
      · cases e
    · show _ = if j ∈ p.fst then some (rest (p.cn j) (.many p)) else none
      split <;> rfl
  | .either p q, k + 2, j, hn, hi, hd, hj, hk => by
    have e1 : (Pat.either p q).deep = 1 + max p.deep q.deep := rfl
    obtain ⟨n1, n2, n3⟩ := List.nodup_append.mp (show (p.items ++ q.items).Nodup from hn)
    have ih := behA p (k + 1) j n1 hi.l' (by omega) hj (by omega)
    have ih2 := behA q (k + 1) j n2 hi.r' (by omega) hj (by omega)
    refine cast (beh_either (k + 1) p q j _ _ (fun x e => ?_) (fun x e => ?_) (fun x y e e2 => ?_) ih ih2) ?_
    · split at e
      · cases e; exact ⟨It.cn hi.l', by have := cn_deep (i := j) p; omega⟩
      · cases e
    · split at e
      · cases e; exact ⟨It.cn hi.r', by have := cn_deep (i := j) q; omega⟩
      · cases e
    · split at e
      · rename_i h1
        split at e2
        · rename_i h2
          exact absurd rfl (n3 j (fst_sub h1) j (fst_sub h2))
        · cases e2
      · cases e
    · show _ = if j ∈ p.fst ++ q.fst then some (if j ∈ p.items then p.cn j else q.cn j) else none
      by_cases h1 : j ∈ p.fst
      · rw [if_pos h1, if_pos (List.mem_append_left _ h1), if_pos (fst_sub h1)]
        rfl
      · rw [if_neg h1]
        by_cases h2 : j ∈ q.fst
        · rw [if_pos h2, if_pos (List.mem_append_right _ h2), if_neg fun z => n3 j z j (fst_sub h2) rfl]
          rfl
        · rw [if_neg h2, if_neg (by simp [h1, h2])]
          rfl
  | .row p q, k + 2, j, hn, hi, hd, hj, hk => by
    have e1 : (Pat.row p q).deep = 1 + max p.deep q.deep := rfl
    obtain ⟨n1, n2, n3⟩ := List.nodup_append.mp (show (p.items ++ q.items).Nodup from hn)
    have ih := behA p (k + 1) j n1 hi.l (by omega) hj (by omega)
    have ih2 := behA q (k + 1) j n2 hi.r (by omega) hj (by omega)
    refine cast (beh_row k p q j _ _ (fun x e => ?_) (fun x e => ?_) ⟨hi.r, by omega⟩ (fun x y e e2 => ?_) (by omega) ih fun _ => ih2) ?_
    · split at e
      · cases e; exact ⟨It.cn hi.l, by have := cn_deep (i := j) p; omega⟩
      · cases e
    · split at e
      · cases e; exact ⟨It.cn hi.r, by have := cn_deep (i := j) q; omega⟩
      · cases e
    · split at e
      · rename_i h1
        split at e2
        · split at e2
          · rename_i h2
            exact absurd rfl (n3 j (fst_sub h1) j (fst_sub h2))
          · cases e2
        · cases e2
      · cases e
    · rw [fst_row, cn_row]
      by_cases h1 : j ∈ p.fst
      · rw [if_pos h1, if_pos (List.mem_append_left _ h1), if_pos (fst_sub h1)]
        rfl
      · rw [if_neg h1]
        cases p.hollow with
        | false => simp [h1, both]
        | true =>
          by_cases h2 : j ∈ q.fst
          · simp [h1, h2, both]
            exact fun z => absurd rfl (n3 j z j (fst_sub h2))
          · simp [h1, h2, both]
theorem behB : ∀ (p : Pat Int) (k : Nat) (i j : Int), p.items.Nodup → It p → p.deep ≤ 40 → i ∈ p.items → (0 ≤ j ∧ j < 8) → p.deep + 2 ≤ k → Gn (tb k .F_law_behind_item [(p.cn i).toD sI, lot j]) (opt (if j ∈ p.fol i then some (p.cn j) else none))
  | p, 0, i, j, _, _, _, _, _, h => by omega
  | p, 1, i, j, _, _, _, _, _, h => by omega
  | .none, k + 2, i, j, _, _, _, h, _, _ => by cases h
  | .item a, k + 2, i, j, _, _, _, _, _, _ => beh_none _ j
  | .either p q, k + 2, i, j, hn, hi, hd, hm, hj, hk => by
    have e1 : (Pat.either p q).deep = 1 + max p.deep q.deep := rfl
    obtain ⟨n1, n2, n3⟩ := List.nodup_append.mp (show (p.items ++ q.items).Nodup from hn)
    have ef : (Pat.either p q).fol i = p.fol i ++ q.fol i := rfl
    rw [cn_either, ef]
    by_cases hp : i ∈ p.items
    · rw [if_pos hp]
      refine cast (behB p (k + 2) i j n1 hi.l' (by omega) hp hj (by omega)) ?_
      rw [fol_nil (p := q) fun z => n3 i hp i z rfl, List.append_nil, cn_either]
      by_cases h : j ∈ p.fol i
      · rw [if_pos h, if_pos h, if_pos (fol_sub h)]
      · rw [if_neg h, if_neg h]
    · have hq : i ∈ q.items := (List.mem_append.mp hm).resolve_left hp
      rw [if_neg hp]
      refine cast (behB q (k + 2) i j n2 hi.r' (by omega) hq hj (by omega)) ?_
      rw [fol_nil hp, List.nil_append, cn_either]
      by_cases h : j ∈ q.fol i
      · rw [if_pos h, if_pos h, if_neg fun z => n3 j z j (fol_sub h) rfl]
      · rw [if_neg h, if_neg h]
  | .row p q, k + 2, i, j, hn, hi, hd, hm, hj, hk => by
    have e1 : (Pat.row p q).deep = 1 + max p.deep q.deep := rfl
    obtain ⟨n1, n2, n3⟩ := List.nodup_append.mp (show (p.items ++ q.items).Nodup from hn)
    have dp := deep_pos p
    have dq := deep_pos q
    rw [cn_row, fol_row']
    by_cases hp : i ∈ p.items
    · rw [if_pos hp, fol_nil (p := q) fun z => n3 i hp i z rfl, List.append_nil]
      have hh := cn_hollow n1 hp
      by_cases hx : p.cn i = .none
      · rw [hx, rest_none, cn_none n1 hp hx, List.nil_append]
        rw [hx] at hh
        have hl : i ∈ p.lst := of_decide_eq_true hh.symm
        refine cast (behA q (k + 2) j n2 hi.r (by omega) hj (by omega)) ?_
        rw [if_pos hl, cn_row]
        by_cases h : j ∈ q.fst
        · rw [if_pos h, if_pos h, if_neg fun z => n3 j z j (fst_sub h) rfl]
        · rw [if_neg h, if_neg h]
      · rw [rest_row hx]
        have ih := behB p (k + 1) i j n1 hi.l (by omega) hp hj (by omega)
        have ih2 := behA q (k + 1) j n2 hi.r (by omega) hj (by omega)
        refine cast (beh_row k (p.cn i) q j _ _ (fun x e => ?_) (fun x e => ?_) ⟨hi.r, by omega⟩ (fun x y e e2 => ?_) (by have := cn_deep (i := i) p; omega) ih fun _ => ih2) ?_
        · split at e
          · cases e; exact ⟨It.cn hi.l, by have := cn_deep (i := j) p; omega⟩
          · cases e
        · split at e
          · cases e; exact ⟨It.cn hi.r, by have := cn_deep (i := j) q; omega⟩
          · cases e
        · split at e
          · rename_i h1
            split at e2
            · split at e2
              · rename_i h2
                exact absurd rfl (n3 j (fol_sub h1) j (fst_sub h2))
              · cases e2
            · cases e2
          · cases e
        · rw [hh, cn_row]
          by_cases h1 : j ∈ p.fol i
          · rw [if_pos h1, if_pos (List.mem_append_left _ h1), if_pos (fol_sub h1)]
            rfl
          · rw [if_neg h1]
            by_cases hl : i ∈ p.lst
            · by_cases h2 : j ∈ q.fst
              · simp [h1, h2, hl, both]
                exact fun z => absurd rfl (n3 j z j (fst_sub h2))
              · simp [h1, h2, hl, both]
            · simp [h1, hl, both]
    · have hq : i ∈ q.items := (List.mem_append.mp hm).resolve_left hp
      have hl : i ∉ p.lst := fun z => hp (lst_sub z)
      rw [if_neg hp, fol_nil hp, if_neg hl, List.nil_append, List.append_nil]
      refine cast (behB q (k + 2) i j n2 hi.r (by omega) hq hj (by omega)) ?_
      rw [cn_row]
      by_cases h : j ∈ q.fol i
      · rw [if_pos h, if_pos h, if_neg fun z => n3 j z j (fol_sub h) rfl]
      · rw [if_neg h, if_neg h]
  | .many p, k + 2, i, j, hn, hi, hd, hm, hj, hk => by
    have e1 : (Pat.many p).deep = 1 + p.deep := rfl
    have hh := cn_hollow (p := p) hn hm
    have dp := deep_pos p
    rw [cn_many, fol_many', cn_many]
    have ihM : ∀ k, 1 + p.deep + 1 ≤ k → Gn (tb k .F_law_behind_item [(Pat.many p).toD sI, lot j]) (opt (if j ∈ p.fst then some (rest (p.cn j) (.many p)) else none)) := fun k hk => behA (.many p) k j hn hi (by omega) hj (by omega)
    by_cases hx : p.cn i = .none
    · rw [hx, rest_none, cn_none (p := p) hn hm hx, List.nil_append]
      rw [hx] at hh
      have hl : i ∈ p.lst := of_decide_eq_true hh.symm
      rw [if_pos hl]
      exact ihM _ (by omega)
    · rw [rest_row hx]
      have ih := behB p (k + 1) i j hn hi (by omega) hm hj (by omega)
      refine cast (beh_row k (p.cn i) (.many p) j _ _ (fun x e => ?_) (fun x e => ?_) ⟨hi, by omega⟩ (fun x y e e2 => ?_) (by have := cn_deep (i := i) p; omega) ih fun _ => ihM (k + 1) (by omega)) ?_
      · split at e
        · cases e; exact ⟨It.cn (p := p) hi, by have := cn_deep (i := j) p; omega⟩
        · cases e
      · split at e
        · cases e
          refine ⟨fun a ha => (Pat.rest_items ha).elim (It.cn (p := p) hi a) (hi a), ?_⟩
          have := cn_deep (i := j) p
          have := Pat.rest_deep (x := p.cn j) (y := .many p)
          omega
        · cases e
      · split at e
        · cases e
          split at e2
          · split at e2
            · cases e2; rfl
            · cases e2
          · cases e2
        · cases e
      · rw [hh]
        by_cases h1 : j ∈ p.fol i
        · rw [if_pos h1, if_pos (List.mem_append_left _ h1)]
          rfl
        · rw [if_neg h1]
          by_cases hl : i ∈ p.lst
          · by_cases h2 : j ∈ p.fst
            · simp [h1, h2, hl, both]
            · simp [h1, h2, hl, both]
          · simp [h1, hl, both]
end K35


namespace K35
open PySem Mx
open L2 (Key)
/-! ### what repr shows of a pattern -/
theorem tup_le (ts : List Str) : (tupleText ts).length ≤ piled ts + 3 := by
  unfold tupleText
  rw [strLen_append, strLen_append]
  have e1 : ((("(" : String) : Str)).length = 1 := rfl
  have e3 : (((if ts.length == 1 then ",)" else ")" : String) : Str)).length ≤ 2 := by split <;> decide
  rw [e1]
  by_cases h : ts = []
  · subst h
    have : (Str.join ", " []).length = 0 := rfl
    omega
  · have := join_length_add ts h
    omega
section
variable {α : Type} [DecidableEq α] (f : α → Str)
def Pat.py : Pat α → PyData
  | .none => .tuple [.str "none"]
  | .item a => .tuple [.str "item", .str (f a)]
  | .row p q => .tuple [.str "row", p.py, q.py]
  | .either p q => .tuple [.str "either", p.py, q.py]
  | .many p => .tuple [.str "many", p.py]
theorem toPy_py : ∀ (p : Pat α) (n : Nat), p.deep + 1 ≤ n → Ok f p → toPy [] n (p.toD f) = some (p.py f)
  | p, 0, h, _ => by omega
  | p, 1, h, _ => by have := deep_pos p; omega
  | .none, n + 2, h, ho => by unfold Pat.toD toPy mapO mapO; rw [toPy_str ok_none]; rfl
  | .item a, n + 2, h, ho => by
    unfold Pat.toD toPy mapO mapO mapO
    rw [toPy_str ok_item, toPy_str (ho a (List.mem_cons_self ..))]
    rfl
  | .many p, n + 2, h, ho => by
    have e := toPy_py p (n + 1) (by unfold Pat.deep at h; omega) ho
    unfold Pat.toD toPy mapO mapO mapO
    rw [toPy_str ok_many, e]
    rfl
  | .row p q, n + 2, h, ho => by
    unfold Pat.deep at h
    have e := toPy_py p (n + 1) (by omega) (fun a ha => ho a (List.mem_append_left _ ha))
    have e2 := toPy_py q (n + 1) (by omega) (fun a ha => ho a (List.mem_append_right _ ha))
    unfold Pat.toD toPy mapO mapO mapO mapO
    rw [toPy_str ok_row, e, e2]
    rfl
  | .either p q, n + 2, h, ho => by
    unfold Pat.deep at h
    have e := toPy_py p (n + 1) (by omega) (fun a ha => ho a (List.mem_append_left _ ha))
    have e2 := toPy_py q (n + 1) (by omega) (fun a ha => ho a (List.mem_append_right _ ha))
    unfold Pat.toD toPy mapO mapO mapO mapO
    rw [toPy_str ok_either, e, e2]
    rfl
end
theorem sI_sh : ∀ i : Fin 8, (PyData.shown (.str (sI i.val))).length ≤ 20 := by decide +kernel
theorem sh_n : (PyData.shown (.str "none")).length ≤ 20 := by decide +kernel
theorem sh_i : (PyData.shown (.str "item")).length ≤ 20 := by decide +kernel
theorem sh_r : (PyData.shown (.str "row")).length ≤ 20 := by decide +kernel
theorem sh_e : (PyData.shown (.str "either")).length ≤ 20 := by decide +kernel
theorem sh_m : (PyData.shown (.str "many")).length ≤ 20 := by decide +kernel
theorem sh_len {f : Int → Str} : ∀ p : Pat Int, (∀ a ∈ p.items, (PyData.shown (.str (f a))).length ≤ 20) → (p.py f).shown.length ≤ 60 * p.nds ∧ (p.py f).showable = true
  | .none, _ => by
    have := sh_n
    have e := tup_le [PyData.shown (.str "none")]
    simp [piled] at e
    refine ⟨?_, rfl⟩
    show (tupleText [PyData.shown (.str "none")]).length ≤ 60 * 1
    omega
  | .item a, h => by
    have := sh_i
    have h2 := h a (List.mem_cons_self ..)
    have e := tup_le [PyData.shown (.str "item"), PyData.shown (.str (f a))]
    simp [piled] at e
    refine ⟨?_, rfl⟩
    show (tupleText [PyData.shown (.str "item"), PyData.shown (.str (f a))]).length ≤ 60 * 1
    omega
  | .many p, h => by
    have := sh_m
    obtain ⟨h1, h2⟩ := sh_len p h
    have e := tup_le [PyData.shown (.str "many"), (p.py f).shown]
    simp [piled] at e
    refine ⟨?_, ?_⟩
    · show (tupleText [PyData.shown (.str "many"), (p.py f).shown]).length ≤ 60 * (1 + p.nds)
      omega
    · show (true && ((p.py f).showable && true)) = true
      rw [h2]; rfl
  | .row p q, h => by
    have := sh_r
    obtain ⟨h1, h2⟩ := sh_len p (fun a ha => h a (List.mem_append_left _ ha))
    obtain ⟨h3, h4⟩ := sh_len q (fun a ha => h a (List.mem_append_right _ ha))
    have e := tup_le [PyData.shown (.str "row"), (p.py f).shown, (q.py f).shown]
    simp [piled] at e
    refine ⟨?_, ?_⟩
    · show (tupleText [PyData.shown (.str "row"), (p.py f).shown, (q.py f).shown]).length ≤ 60 * (1 + p.nds + q.nds)
      omega
    · show (true && ((p.py f).showable && ((q.py f).showable && true))) = true
      rw [h2, h4]; rfl
  | .either p q, h => by
    have := sh_e
    obtain ⟨h1, h2⟩ := sh_len p (fun a ha => h a (List.mem_append_left _ ha))
    obtain ⟨h3, h4⟩ := sh_len q (fun a ha => h a (List.mem_append_right _ ha))
    have e := tup_le [PyData.shown (.str "either"), (p.py f).shown, (q.py f).shown]
    simp [piled] at e
    refine ⟨?_, ?_⟩
    · show (tupleText [PyData.shown (.str "either"), (p.py f).shown, (q.py f).shown]).length ≤ 60 * (1 + p.nds + q.nds)
      omega
    · show (true && ((p.py f).showable && ((q.py f).showable && true))) = true
      rw [h2, h4]; rfl
theorem It.sh {p : Pat Int} (h : It p) : ∀ a ∈ p.items, (PyData.shown (.str (sI a))).length ≤ 20 := fun a ha => by
  obtain ⟨h1, h2⟩ := h a ha
  have := sI_sh ⟨a.toNat, by omega⟩
  rwa [show ((⟨a.toNat, by omega⟩ : Fin 8).val : Int) = a by simp; omega] at this
/-- a pattern that repr may show -/
def Shw (p : Pat Int) : Prop := It p ∧ p.deep ≤ 50 ∧ p.nds ≤ 10000
theorem Shw.ok {p : Pat Int} (h : Shw p) (st : S) : (shownD st (p.toD sI)).isSome = true := by
  obtain ⟨h1, h2, h3⟩ := h
  unfold shownD
  rw [toPy_pure (toPy_py sI p 64 (by omega) h1.ok) (Nat.le_refl _)]
  obtain ⟨e1, e2⟩ := sh_len p h1.sh
  have : (p.py sI).shown.length ≤ sizeLine := Nat.le_trans e1 (Nat.le_trans (Nat.mul_le_mul_left 60 h3) (by rw [sizeLine_eq]; decide))
  simp [e2, this]
section
variable {st : S} {Q : D → S → Prop} {n : Nat} {es : Es}
@[simp] theorem run_sortR {me : Es → M D} : Rn (sortR me es) st Q = Rn (me es) st fun x s => match x with
    | .ref n => Rn (sortRef n) s Q
    | _ => False := by
  unfold sortR
  rw [run_bind]
  congr 1
  funext x s
  cases x <;> rfl
theorem sort_opt {o : Option (Pat Int)} (ho : ∀ x, o = some x → Shw x) (h : st[n]? = some (.lst (opt o))) : Rn (sortRef n) st Q = Q (.ref st.length) (st ++ [.lst (opt o)]) := run_some (by
  unfold sortRef
  rw [h]
  cases o with
  | none => simp [opt, allShown]
  | some x => simp [opt, allShown, (ho x rfl).ok st])
end
theorem left_ok (k n : Nat) (j : Int) (st : S) (o o' : Option (Pat Int)) (h0 : o = none → o' = none) (h1 : ∀ x, o = some x → Gn (tb k .F_law_behind_item [x.toD sI, lot j]) (opt o')) (h2 : ∀ x, o' = some x → Shw x) (h : st[n]? = some (.lst (opt o))) :
    Rn (tb (k + 1) .F_law_left [.ref n, lot j]) st fun d s => ∃ m ex, d = .ref m ∧ s = st ++ ex ∧ s[m]? = some (.lst (opt o')) := by
  rw [t_b__law_left]
  simp [b__law_left, sz]
  rw [run_live (ga h)]
  cases o with
  | none =>
    have h' : st[n]? = some (.lst []) := h
    simp [lapE L0_eq, live_at (ga h'), lapOf]
    rw [sort_opt (o := none) (fun x e => by cases e) (by simp [opt])]
    rw [h0 rfl]
    exact ⟨_, rfl, ⟨_, by simp; rfl⟩, by simp⟩
  | some x =>
    have h' : st[n]? = some (.lst [x.toD sI]) := h
    simp [lapE L0_eq, live_at (ga h'), lapOf]
    refine (h1 x rfl).run fun n1 ex hn1 hg1 => ?_
    simp at hn1 hg1
    simp
    rw [run_live hg1]
    cases o' with
    | none =>
      have hg' : (st ++ (O.lst [] :: ex))[n1]? = some (.lst []) := hg1
      simp [wipeE, lacE L0_eq, live_at hg', lapOf]
      rw [run_addR (xs := []) (ys := []) (by simp) (by simp)]
      simp [lapE N1_eq, live_at (ga h'), lapOf]
      rw [sort_opt (o := none) (fun x e => by cases e) (by simp [opt])]
      exact ⟨_, rfl, ⟨_, by simp; rfl⟩, by simp⟩
    | some y =>
      have hg' : (st ++ (O.lst [] :: ex))[n1]? = some (.lst [y.toD sI]) := hg1
      obtain ⟨hy1, hy2, hy3⟩ := h2 y rfl
      obtain ⟨p, ep, e63, e64⟩ := (pv_pat sI (by omega : y.deep ≤ 60) hy1.ok).get
      simp [wipeE, lacE L0_eq, lacE N1_eq, live_at hg', lapOf]
      rw [run_ninDeep (ys := []) (qs := []) (by simp) (flat_pat y) (e64 _) rfl]
      simp [sz3, live_at hg', lapOf]
      rw [run_addR (xs := []) (ys := [y.toD sI]) (by simp) (by simp)]
      simp [lapE N1_eq, live_at (ga h'), lapOf]
      refine ⟨sz2 (by decide), ?_⟩
      rw [sort_opt (o := some y) h2 (by simp [opt])]
      exact ⟨_, rfl, ⟨_, by simp; rfl⟩, by simp⟩
end K35


namespace K35
open PySem Mx
open L2 (Key)
/-! ### going through a row -/
abbrev Wh := Option (Option Int)
def pt (p : Pat Int) : Wh → Option (Pat Int)
  | none => none
  | some none => some p
  | some (some i) => some (p.cn i)
def stp (p : Pat Int) : Wh → Int → Wh
  | none, _ => none
  | some none, j => if j ∈ p.fst then some (some j) else none
  | some (some i), j => if j ∈ p.fol i then some (some j) else none
def accp (p : Pat Int) : Wh → Bool
  | none => false
  | some none => p.hollow
  | some (some i) => decide (i ∈ p.lst)
def Good (p : Pat Int) : Wh → Prop
  | some (some i) => i ∈ p.items
  | _ => True
theorem stp_good {p : Pat Int} {w : Wh} {j : Int} : Good p (stp p w j) := by
  match w with
  | none => trivial
  | some none =>
    show Good p (if j ∈ p.fst then some (some j) else none)
    split
    · rename_i h; exact Pat.fst_sub h
    · trivial
  | some (some i) =>
    show Good p (if j ∈ p.fol i then some (some j) else none)
    split
    · rename_i h; exact Pat.fol_sub h
    · trivial
theorem go_good {p : Pat Int} : ∀ {row : List Int} {w : Wh}, Good p w → Good p (row.foldl (stp p) w)
  | [], _, h => h
  | j :: row, w, h => go_good (row := row) stp_good
structure Lin (p : Pat Int) : Prop where
  nd : p.items.Nodup
  it : It p
  dp : p.deep ≤ 7
theorem Lin.shw {p : Pat Int} (h : Lin p) {w : Wh} {x : Pat Int} (e : pt p w = some x) : Shw x := by
  have h1 := Pat.nds_le p
  have h2 : 2 ^ p.deep ≤ 2 ^ 7 := Nat.pow_le_pow_right (by decide) h.dp
  have h3 := h.dp
  match w with
  | none => cases e
  | some none => cases e; exact ⟨h.it, by omega, by omega⟩
  | some (some i) =>
    cases e
    refine ⟨It.cn h.it, by have := Pat.cn_deep (i := i) p; omega, ?_⟩
    exact Nat.le_trans (Pat.cn_nds (i := i) p) (Nat.le_trans (Nat.mul_le_mul h3 (by omega : p.nds ≤ 128)) (by decide))
theorem beh_pt {p : Pat Int} (h : Lin p) {k : Nat} (hk : 10 ≤ k) {w : Wh} (hw : Good p w) {j : Int} (hj : 0 ≤ j ∧ j < 8) {x : Pat Int} (e : pt p w = some x) : Gn (tb k .F_law_behind_item [x.toD sI, lot j]) (opt (pt p (stp p w j))) := by
  have h3 := h.dp
  match w with
  | none => cases e
  | some none =>
    cases e
    refine cast (behA p k j h.nd h.it (by omega) hj (by omega)) ?_
    show _ = pt p (if j ∈ p.fst then some (some j) else none)
    split <;> rfl
  | some (some i) =>
    cases e
    refine cast (behB p k i j h.nd h.it (by omega) hw hj (by omega)) ?_
    show _ = pt p (if j ∈ p.fol i then some (some j) else none)
    split <;> rfl
theorem Lin.dpx {p : Pat Int} (h : Lin p) {w : Wh} {x : Pat Int} (e : pt p w = some x) : x.deep ≤ 8 := by
  have h3 := h.dp
  match w with
  | none => cases e
  | some none => cases e; omega
  | some (some i) => cases e; have := Pat.cn_deep (i := i) p; omega
theorem hollow_pt {p : Pat Int} (h : Lin p) {w : Wh} (hw : Good p w) {x : Pat Int} (e : pt p w = some x) : x.hollow = accp p w := by
  match w with
  | none => cases e
  | some none => cases e; rfl
  | some (some i) => cases e; exact Pat.cn_hollow h.nd hw
theorem run_inFlat {st : S} {Q : D → S → Prop} {n : Nat} {x : D} {ys : List D} (h : st[n]? = some (.lst ys)) (hf : (flatD x && ys.all flatD) = true) : Rn (inO x (.ref n)) st Q = Q (.bl (ys.any fun z => eq1 z x)) st := by
  have e : inRef x n st = some (ys.any fun z => eq1 z x, st) := by
    unfold inRef
    rw [h]
    simp only [hf]
    show inFlat x ys st = _
    unfold inFlat
    rw [hf]
    rfl
  unfold inO
  rw [run_blM, run_bind]
  refine (run_some e).trans ?_
  rfl
def rowS (row : List Int) : List D := row.map fun j => .str (sI j)
theorem takes_ok {p : Pat Int} (h : Lin p) (k r : Nat) (hk : 12 ≤ k) (row : List Int) (hr : ∀ j ∈ row, 0 ≤ j ∧ j < 8) (hl : row.length ≤ 1000) (st : S) (hst : st[r]? = some (.lst (rowS row))) :
    Rn (tb (k + 1) .F_law_takes [p.toD sI, .ref r]) st fun d s => d = .bl (accp p (row.foldl (stp p) (some none))) ∧ ∃ ex, s = st ++ ex := by
  obtain ⟨k, rfl⟩ : ∃ k', k = k' + 1 := ⟨k - 1, by omega⟩
  rw [t_b__law_takes]
  simp [b__law_takes, sz]
  rw [run_live (ga hst)]
  refine run_for (ds := rowS row) (fun i es s => ∃ (m : Nat) (o : Option D) (ex : S), es = [some (p.toD sI), some (.ref r), some (.ref m), o, none] ∧ s = st ++ ex ∧ s[m]? = some (.lst (opt (pt p ((row.take i).foldl (stp p) (some none)))))) (fun i es s ⟨m, o, ex, e1, e2, e3⟩ => live_at (by rw [e2]; exact ga hst)) ?_ ?_ _ _ _ _ ?_ ?_ ?_
  · rintro i d es s hd ⟨m, o, ex, rfl, rfl, hm⟩
    obtain ⟨j, hj, rfl⟩ : ∃ j, row[i]? = some j ∧ .str (sI j) = d := by
      unfold rowS at hd
      rw [List.getElem?_map] at hd
      cases e : row[i]? with
      | none => rw [e] at hd; cases hd
      | some x => rw [e] at hd; exact ⟨x, rfl, Option.some.inj hd⟩
    have hj8 := hr j (List.mem_of_getElem? hj)
    have hg : Good p ((row.take i).foldl (stp p) (some none)) := go_good trivial
    simp [sz]
    refine (left_ok k m j _ _ (pt p (stp p ((row.take i).foldl (stp p) (some none)) j)) (fun e => ?_) (fun x e => beh_pt h (by omega) hg hj8 e) (fun x e => h.shw e) hm).mono fun d s ⟨m2, ex2, e1, e2, e3⟩ => ?_
    · cases hw : (row.take i).foldl (stp p) (some none) with
      | none => rfl
      | some w => rw [hw] at e; cases w <;> cases e
    subst e1 e2
    simp
    rw [take_get hj, List.foldl_append]
    simpa using e3
  · rintro es s ⟨m, o, ex, rfl, rfl, hm⟩
    rw [show (rowS row).length = row.length by simp [rowS], List.take_length] at hm
    have hg : Good p (row.foldl (stp p) (some none)) := go_good trivial
    simp
    rw [run_live hm]
    cases e : pt p (row.foldl (stp p) (some none)) with
    | none =>
      rw [e] at hm
      have hm' : (st ++ ex)[m]? = some (.lst []) := hm
      simp [wipeE, lacE L0_eq, live_at hm', lapOf]
      rw [run_inFlat (ys := []) (by simp) rfl]
      have : accp p (row.foldl (stp p) (some none)) = false := by
        cases hw : row.foldl (stp p) (some none) with
        | none => rfl
        | some w => rw [hw] at e; cases w <;> cases e
      simp [this]
    | some x =>
      rw [e] at hm
      have hm' : (st ++ ex)[m]? = some (.lst [x.toD sI]) := hm
      have hx := hollow_pt h hg e
      simp [wipeE, lacE L0_eq, lacE N1_eq, live_at hm', lapOf]
      refine (hollow_ok sI x (k + 1) (by have := h.dpx e; omega)).run fun ex2 => ?_
      simp [sz3, live_at (getApp hm' ex2), lapOf]
      rw [run_inFlat (ys := [.bl x.hollow]) (by simp) rfl]
      simp [hx]
  · exact lt0 (by simp [rowS]; omega)
  · exact Nat.zero_le _
  · exact ⟨st.length, none, [.lst [p.toD sI]], rfl, rfl, by simp [opt, pt]⟩
end K35


namespace K35
open PySem Mx
open L2 (Key)
theorem foldl_dead (q : Pat Int) : ∀ r : List Int, r.foldl (stp q) none = none
  | [] => rfl
  | _ :: r => foldl_dead q r
def okS (q : Pat Int) : Int → List Int → Bool
  | _, [] => true
  | j, i :: r => decide (i ∈ q.fol j) && okS q i r
def lastI : Int → List Int → Int
  | j, [] => j
  | _, i :: r => lastI i r
theorem acc_okS (q : Pat Int) : ∀ (r : List Int) (j : Int), accp q (r.foldl (stp q) (some (some j))) = (okS q j r && decide (lastI j r ∈ q.lst))
  | [], j => by simp [accp, okS, lastI]; try rfl
  | i :: r, j => by
    show accp q (r.foldl (stp q) (if i ∈ q.fol j then some (some i) else none)) = _
    by_cases h : i ∈ q.fol j
    · rw [if_pos h, acc_okS q r i]
      simp [okS, lastI, h]
      try rfl
    · rw [if_neg h, foldl_dead]
      simp [okS, h, accp]
theorem acc_row (q : Pat Int) (j : Int) (r : List Int) : accp q ((j :: r).foldl (stp q) (some none)) = (decide (j ∈ q.fst) && (okS q j r && decide (lastI j r ∈ q.lst))) := by
  show accp q (r.foldl (stp q) (if j ∈ q.fst then some (some j) else none)) = _
  by_cases h : j ∈ q.fst
  · rw [if_pos h, acc_okS]
    simp [h]
  · rw [if_neg h, foldl_dead]
    simp [h, accp]
theorem any_int {i : Int} : ∀ {l : List Int}, ((l.map D.int).any fun z => eq1 z (.int i)) = decide (i ∈ l)
  | [] => rfl
  | j :: l => by
    rw [List.map_cons, List.any_cons, any_int]
    show ((j == i) || decide (i ∈ l)) = _
    by_cases h : j = i
    · simp [h]
    · simp [h, Ne.symm h]
theorem flat_ints : ∀ l : List Int, (l.map D.int).all flatD = true
  | [] => rfl
  | j :: l => by rw [List.map_cons, List.all_cons, flat_ints]; rfl
section
variable {st : S} {Q : D → S → Prop}
theorem in_ints {i : Int} {l : List Int} : Rn (inO (.int i) (tI l)) st Q = Q (.bl (decide (i ∈ l))) st := by
  unfold tI
  rw [run_inT, any_int, flat_ints]
  simp
theorem nin_ints {i : Int} {l : List Int} : Rn (ninO (.int i) (tI l)) st Q = Q (.bl (!decide (i ∈ l))) st := by
  unfold tI
  rw [run_ninT, any_int, flat_ints]
  simp
theorem at_pos {xs : List D} {i : Int} (h0 : 0 ≤ i) {d : D} (h : xs[i.toNat]? = some d) : L2.atI xs i = some d := by
  have hl := (List.getElem?_eq_some_iff.mp h).1
  unfold L2.atI L2.ixN
  rw [if_pos h0, if_pos (by omega)]
  exact h
theorem ix_tup {xs : List D} {i : Int} (h0 : 0 ≤ i) {d : D} (h : xs[i.toNat]? = some d) : Rn (ixD (.tup xs) (.int i)) st Q = Q d st := by
  show Rn (ofO (L2.atI xs i)) st Q = _
  rw [at_pos h0 h]
  rfl
theorem ix_last {xs : List D} {d : D} (h : xs[xs.length - 1]? = some d) (hl : 0 < xs.length) : Rn (ixD (.tup xs) (.int (-1))) st Q = Q d st := by
  show Rn (ofO (L2.atI xs (-1))) st Q = _
  have : L2.atI xs (-1) = some d := by
    unfold L2.atI L2.ixN
    rw [if_neg (by omega), if_pos (by omega)]
    show xs[((-1 : Int) + xs.length).toNat]? = _
    rw [show ((-1 : Int) + xs.length).toNat = xs.length - 1 by omega]
    exact h
  rw [this]
  rfl
theorem toPy_ints : ∀ (l : List Int) (n : Nat), mapO (toPy st (n + 1)) (l.map .int) = some (l.map PyData.int)
  | [], _ => rfl
  | j :: l, n => by
    rw [List.map_cons]
    unfold mapO
    rw [toPy_ints l n]
    rfl
theorem eq_row {j : Int} {r : List Int} : Rn (eqO (tI (j :: r)) (.tup [])) st Q = Q (.bl false) st := by
  have e : toPy st 64 (tI (j :: r)) = some (.tuple ((j :: r).map PyData.int)) := by
    unfold tI toPy
    rw [toPy_ints (j :: r) 62]
  rw [run_eqO, e]
  show Q (.bl (PyData.eqv (.tuple (.int j :: r.map PyData.int)) (.tuple []))) st = _
  rw [PyData.eqv, PyData.eqvAll]
end
/-- the pairs of a row, each with the next -/
def prsI : Int → List Int → List (Int × Int)
  | _, [] => []
  | j, i :: r => (j, i) :: prsI i r
theorem okS_all (q : Pat Int) : ∀ (r : List Int) (j : Int), okS q j r = (prsI j r).all fun x => decide (x.2 ∈ q.fol x.1)
  | [], _ => rfl
  | i :: r, j => by
    rw [prsI, List.all_cons, ← okS_all q r i]
    rfl
theorem prs_len : ∀ (r : List Int) (j : Int), (prsI j r).length = r.length
  | [], _ => rfl
  | i :: r, j => by rw [prsI, List.length_cons, prs_len, List.length_cons]
theorem prs_mem : ∀ {r : List Int} {j : Int} {x : Int × Int}, x ∈ prsI j r → x.1 ∈ j :: r ∧ x.2 ∈ j :: r
  | [], _, _, h => by cases h
  | i :: r, j, x, h => by
    rw [prsI] at h
    rcases List.mem_cons.mp h with rfl | h
    · simp
    · obtain ⟨h1, h2⟩ := prs_mem h
      exact ⟨List.mem_cons_of_mem _ h1, List.mem_cons_of_mem _ h2⟩
theorem zip_at {st : S} : ∀ (r : List Int) (j : Int) (i : Nat), (Src.zip ((j :: r).map .int) (r.map .int)).at st i = lapOf ((prsI j r).map fun x => D.tup [.int x.1, .int x.2])[i]?
  | [], j, i => by
    show zipAt _ _ = _
    simp [prsI, zipAt, lapOf]
  | a :: r, j, 0 => rfl
  | a :: r, j, i + 1 => zip_at (st := st) r a i
theorem last_get : ∀ (r : List Int) (j : Int), ((j :: r).map D.int)[((j :: r).map D.int).length - 1]? = some (.int (lastI j r))
  | [], j => rfl
  | i :: r, j => by
    have := last_get r i
    simpa [lastI] using this
end K35


namespace K35
open PySem Mx
open L2 (Key)
theorem run_zip {a b : Es → M D} {es : Es} {st : S} {QR : Src → S → Prop} : Rn (zipS a b es) st QR = Rn (a es) st fun x s => Rn (b es) s fun y s2 => match x, y with
    | .tup xs, .tup ys => QR (.zip xs ys) s2
    | _, _ => False := by
  unfold zipS
  simp only [run_bind]
  congr 1
  funext x s
  congr 1
  funext y s2
  cases x <;> cases y <;> rfl
theorem run_neg {i : Int} {st : S} {Q : D → S → Prop} : Rn (negD (.int i)) st Q = Q (.int (-i)) st := rfl
theorem run_eqL {st : S} {Q : D → S → Prop} {n m : Nat} {l : List Int} (h : st[n]? = some (.lst (l.map .int))) (h2 : st[m]? = some (.lst [])) : Rn (eqO (.ref n) (.ref m)) st Q = Q (.bl (decide (l = []))) st := by
  have e : toPy st 64 (.ref n) = some (.list (l.map PyData.int)) := by
    unfold toPy
    rw [h]
    show (match mapO (toPy st 63) (l.map .int) with | some ps => some (PyData.list ps) | none => none) = _
    rw [toPy_ints l 62]
  have e2 : toPy st 64 (.ref m) = some (.list []) := by
    unfold toPy
    rw [h2]
    rfl
  rw [run_eqO, e, e2]
  show Q (.bl (PyData.eqv (.list (l.map PyData.int)) (.list []))) st = _
  cases l with
  | nil => rw [List.map_nil, PyData.eqv, PyData.eqvAll]; simp
  | cons j l => rw [List.map_cons, PyData.eqv, PyData.eqvAll]; simp
theorem goes_ok (q : Pat Int) (m k : Nat) (hq : q.items = Pat.run 0 m) (row : List Int) (hr : ∀ j ∈ row, 0 ≤ j ∧ j < m) (hl : row.length ≤ 1000) (st : S) :
    Rn (tb (k + 1) .F_law_goes [mvD q, tI row]) st fun d s => d = .bl (accp q (row.foldl (stp q) (some none))) ∧ ∃ ex, s = st ++ ex := by
  rw [t_b__law_goes]
  cases row with
  | nil =>
    have e : tI [] = .tup [] := rfl
    simp [b__law_goes, mvD, sz, e]
    rw [run_eqr (show Pu (.tup []) from rfl)]
    simp [accp]
  | cons j r =>
    simp [b__law_goes, mvD, sz, eq_row, -run_lc]
    rw [run_lc]
    simp [run_zip, wipeE, -run_lc]
    rw [show tI (j :: r) = .tup ((.int j) :: r.map .int) from rfl]
    simp [-run_lc]
    refine run_lapC (ds := (prsI j r).map fun x => D.tup [.int x.1, .int x.2]) (fun i acc s => acc = (((prsI j r).take i).filter fun x => !decide (x.2 ∈ q.fol x.1)).map (fun x => D.int x.1) ∧ ∃ ex, s = st ++ ex) (fun i acc s _ => zip_at r j i) ?_ ?_ _ _ _ _ ?_ ?_ ?_
    · rintro i d acc s hd ⟨rfl, ex, rfl⟩
      obtain ⟨x, hx, rfl⟩ : ∃ x, (prsI j r)[i]? = some x ∧ D.tup [.int x.1, .int x.2] = d := by
        rw [List.getElem?_map] at hd
        cases e : (prsI j r)[i]? with
        | none => rw [e] at hd; cases hd
        | some x => rw [e] at hd; exact ⟨x, rfl, Option.some.inj hd⟩
      obtain ⟨m1, m2⟩ := prs_mem (List.mem_of_getElem? hx)
      have h1 := hr _ m1
      have hf : (q.items.map fun i => tI (uniqI (q.fol i)))[x.1.toNat]? = some (tI (uniqI (q.fol x.1))) := by
        rw [hq, List.getElem?_map, run_get, if_pos (by omega)]
        simp [show ((x.1.toNat : Nat) : Int) = x.1 by omega, h1.1]
      simp
      rw [ix_tup h1.1 hf, nin_ints]
      have hm : decide (x.2 ∈ uniqI (q.fol x.1)) = decide (x.2 ∈ q.fol x.1) := by simp only [mem_uniqI]
      rw [hm]
      have ht : (prsI j r).take (i + 1) = (prsI j r).take i ++ [x] := by
        rw [List.take_add_one, hx]
        rfl
      have hlen : (((prsI j r).take i).filter fun x => !decide (x.2 ∈ q.fol x.1)).length ≤ 1000 := Nat.le_trans (List.length_filter_le ..) (Nat.le_trans (List.length_take_le' ..) (by rw [prs_len]; simp at hl; omega))
      rw [ht, List.filter_append, List.map_append]
      by_cases hb : x.2 ∈ q.fol x.1
      · simp [hb]
      · simp [hb]
        exact sz3 (by omega)
    · rintro acc s ⟨rfl, ex, rfl⟩
      rw [show ((prsI j r).map fun x => D.tup [.int x.1, .int x.2]).length = (prsI j r).length by simp, List.take_length]
      simp
      have ea : accp q (List.foldl (stp q) (stp q (some none) j) r) = _ := acc_row q j r
      rw [ea, in_ints]
      have hm1 : decide (j ∈ uniqI q.fst) = decide (j ∈ q.fst) := by simp only [mem_uniqI]
      rw [hm1]
      have hb : decide (((prsI j r).filter fun x => !decide (x.2 ∈ q.fol x.1)).map (·.1) = []) = okS q j r := by
        rw [okS_all]
        rw [Bool.eq_iff_iff, decide_eq_true_eq, List.map_eq_nil_iff, List.filter_eq_nil_iff, List.all_eq_true]
        constructor
        · intro h x hx
          have := h x hx
          simpa using this
        · intro h x hx
          have := h x hx
          simpa using this
      by_cases h1 : j ∈ q.fst
      · simp [h1]
        rw [run_eqL (l := ((prsI j r).filter fun x => !decide (x.2 ∈ q.fol x.1)).map (·.1)) (by simp) (by simp), hb]
        cases hk : okS q j r with
        | false => simp
        | true =>
          simp [run_neg]
          rw [ix_last (xs := D.int j :: List.map D.int r) (d := .int (lastI j r)) (last_get r j) (by simp), in_ints]
          simp [mem_uniqI]
      · simp [h1]
    · exact lt0 (by simp [prs_len]; simp at hl; omega)
    · exact Nat.zero_le _
    · exact ⟨rfl, [], by simp⟩
end K35


namespace K35
open PySem Mx
open L2 (Key)
/-- plain data, nested at most so deep -/
def pl : Nat → D → Bool
  | 0, _ => false
  | _ + 1, .int _ => true
  | _ + 1, .bl _ => true
  | _ + 1, .str _ => true
  | n + 1, .tup ds => decide (ds.length ≤ 1000) && ds.all (pl n)
  | _ + 1, _ => false
section
variable {st : S} {Q : D → S → Prop}
@[simp] theorem isi_tup {ds : List D} : Rn (on2 isi1 [.tup ds, .tup [.ty .list, .ty .tuple]]) st Q = Q (.bl true) st := rfl
@[simp] theorem isi_int {i : Int} : Rn (on2 isi1 [.int i, .tup [.ty .list, .ty .tuple]]) st Q = Q (.bl false) st := rfl
@[simp] theorem isi_bl {i : Bool} : Rn (on2 isi1 [.bl i, .tup [.ty .list, .ty .tuple]]) st Q = Q (.bl false) st := rfl
@[simp] theorem isi_str {i : Str} : Rn (on2 isi1 [.str i, .tup [.ty .list, .ty .tuple]]) st Q = Q (.bl false) st := rfl
@[simp] theorem isd_int {i : Int} : Rn (on2 isi1 [.int i, .ty .dict]) st Q = Q (.bl false) st := rfl
@[simp] theorem isd_bl {i : Bool} : Rn (on2 isi1 [.bl i, .ty .dict]) st Q = Q (.bl false) st := rfl
@[simp] theorem isd_str {i : Str} : Rn (on2 isi1 [.str i, .ty .dict]) st Q = Q (.bl false) st := rfl
@[simp] theorem isq_int {i : Int} : Rn (on2 isi1 [.int i, .tup [.ty .int, .ty .str]]) st Q = Q (.bl true) st := rfl
@[simp] theorem isq_bl {i : Bool} : Rn (on2 isi1 [.bl i, .tup [.ty .int, .ty .str]]) st Q = Q (.bl true) st := rfl
@[simp] theorem isq_str {i : Str} : Rn (on2 isi1 [.str i, .tup [.ty .int, .ty .str]]) st Q = Q (.bl true) st := rfl
@[simp] theorem iso_int {i : Int} : Rn (isO (.int i) .non) st Q = Q (.bl false) st := rfl
@[simp] theorem iso_bl {i : Bool} : Rn (isO (.bl i) .non) st Q = Q (.bl false) st := rfl
@[simp] theorem iso_str {i : Str} : Rn (isO (.str i) .non) st Q = Q (.bl false) st := rfl
end
theorem plain_ok : ∀ (k : Nat) (d : D), pl k d = true → Gv (tb k .F_law_plain [d]) (.bl true)
  | 0, d, h => by cases h
  | k + 1, d, h => gv_of fun st => by
    rw [t_b__law_plain]
    cases d with
    | int i => simp [b__law_plain, sz]
    | bl i => simp [b__law_plain, sz]
    | str i => simp [b__law_plain, sz]
    | tup ds =>
      unfold pl at h
      rw [Bool.and_eq_true, decide_eq_true_eq] at h
      simp [b__law_plain, sz]
      refine run_lapC (ds := ds) (fun i acc s => acc = [] ∧ ∃ ex, s = st ++ ex) (fun i acc s _ => rfl) ?_ ?_ _ _ _ _ ?_ ?_ ?_
      · rintro i d acc s hd ⟨rfl, ex, rfl⟩
        have hp := List.all_eq_true.mp h.2 d (List.mem_of_getElem? hd)
        simp [wipeE]
        refine (plain_ok k d hp).run fun ex2 => ?_
        exact ⟨rfl, ex ++ ex2, by rw [List.append_assoc]⟩
      · rintro acc s ⟨rfl, ex, rfl⟩
        have g2 : (st ++ (ex ++ [O.lst [], O.lst []]))[List.length st + List.length ex + 1]? = some (.lst []) := by
          rw [List.getElem?_append_right (by omega), List.getElem?_append_right (by omega)]
          rw [show List.length st + List.length ex + 1 - List.length st - List.length ex = 1 by omega]
          rfl
        simp only [List.append_assoc, List.singleton_append, List.cons_append, List.nil_append, List.length_append, List.length_cons, List.length_nil]
        rw [run_eqL (l := []) (by simp) (by simpa using g2)]
        simp
      · exact lt0 h.1
      · exact Nat.zero_le _
      · exact ⟨rfl, [], by simp⟩
    | _ => cases h
/-- data that repr shows -/
def Rp (d : D) : Prop := ∃ p, toPy [] 64 d = some p ∧ p.showable = true ∧ p.shown.length ≤ sizeLine ∧ PyData.strOk p.shown = true
theorem is_ok (k : Nat) (d : D) (h : pl k d = true) (hr : Rp d) : Gv (tb (k + 1) .F_law_is [d, d]) (.bl true) := gv_of fun st => by
  obtain ⟨p, e, e1, e2, e3⟩ := hr
  have hu : Pu d := by unfold Pu; rw [e]; rfl
  have hr : ∀ {st : S} {Q : D → S → Prop}, Rn (on1 reprD [d]) st Q = Q (.str p.shown) st := fun {st Q} => run_some (by
    show reprD d st = _
    unfold reprD
    rw [toPy_pure e (Nat.le_refl _)]
    simp [e1, e2])
  rw [t_b__law_is]
  simp [b__law_is]
  refine (plain_ok k d h).run fun ex => ?_
  simp [run_eqr hu, hr, run_eqS e3 e3]
end K35


namespace K35
open PySem Mx
open L2 (Key)
theorem rp_bl (b : Bool) : Rp (.bl b) := by
  cases b
  · exact ⟨.bool false, rfl, rfl, Nat.le_trans (by decide +kernel : (PyData.shown (.bool false)).length ≤ 10) (by rw [sizeLine_eq]; decide), by decide +kernel⟩
  · exact ⟨.bool true, rfl, rfl, Nat.le_trans (by decide +kernel : (PyData.shown (.bool true)).length ≤ 10) (by rw [sizeLine_eq]; decide), by decide +kernel⟩
def cMoves : D := .tup [.tup [.int 0, .int 1], .tup [.tup [.int 0, .int 1], .tup []], .tup [.int 0, .int 1], .bl true]
def cPy : PyData := .tuple [.tuple [.int 0, .int 1], .tuple [.tuple [.int 0, .int 1], .tuple []], .tuple [.int 0, .int 1], .bool true]
theorem rp_const : Rp cMoves := ⟨cPy, rfl, by decide +kernel, Nat.le_trans (by decide +kernel : cPy.shown.length ≤ 100) (by rw [sizeLine_eq]; decide), by decide +kernel⟩
theorem strOk_append {a b : Str} (ha : PyData.strOk a = true) (hb : PyData.strOk b = true) : PyData.strOk (a ++ b) = true := by
  unfold PyData.strOk at *
  rw [Str.cps_append, Array.all_append, ha, hb]
  rfl
theorem strOk_join {z : Str} (hz : PyData.strOk z = true) : ∀ ts : List Str, (∀ t ∈ ts, PyData.strOk t = true) → PyData.strOk (Str.join z ts) = true
  | [], _ => by
    show PyData.strOk Str.empty = true
    decide +kernel
  | [x], h => h x (List.mem_cons_self ..)
  | x :: y :: r, h => by
    show PyData.strOk (x ++ z ++ Str.join z (y :: r)) = true
    exact strOk_append (strOk_append (h x (List.mem_cons_self ..)) hz) (strOk_join hz (y :: r) fun t ht => h t (List.mem_cons_of_mem _ ht))
theorem strOk_tup (ts : List Str) (h : ∀ t ∈ ts, PyData.strOk t = true) : PyData.strOk (tupleText ts) = true := by
  unfold tupleText
  refine strOk_append (strOk_append (by decide +kernel) (strOk_join (by decide +kernel) ts h)) ?_
  split <;> decide +kernel
def AB (x : Str) : Prop := x = "a" ∨ x = "b"
theorem ab_ok {x : Str} (h : AB x) : PyData.strOk x = true ∧ PyData.strOk (PyData.shown (.str x)) = true ∧ (PyData.shown (.str x)).length ≤ 20 := by
  rcases h with rfl | rfl <;> decide +kernel
theorem shAll : ∀ l : List Str, PyData.shownAll (l.map PyData.str) = l.map fun x => PyData.shown (.str x)
  | [] => rfl
  | x :: l => by
    rw [List.map_cons, PyData.shownAll, shAll l]
    rfl
theorem shbAll : ∀ l : List Str, PyData.showableAll (l.map PyData.str) = true
  | [] => rfl
  | x :: l => by
    rw [List.map_cons, PyData.showableAll, shbAll l]
    rfl
theorem toPy_strs {st : S} {n : Nat} : ∀ l : List Str, (∀ x ∈ l, AB x) → mapO (toPy st (n + 1)) (l.map .str) = some (l.map PyData.str)
  | [], _ => rfl
  | x :: l, h => by
    rw [List.map_cons]
    unfold mapO
    rw [toPy_str (ab_ok (h x (List.mem_cons_self ..))).1, toPy_strs l fun y hy => h y (List.mem_cons_of_mem _ hy)]
    rfl
theorem piled_ab : ∀ l : List Str, (∀ x ∈ l, AB x) → piled (l.map fun x => PyData.shown (.str x)) ≤ 22 * l.length
  | [], _ => Nat.le_refl _
  | x :: l, h => by
    rw [List.map_cons, piled_cons, List.length_cons]
    have h1 := (ab_ok (h x (List.mem_cons_self ..))).2.2
    have h2 := piled_ab l fun y hy => h y (List.mem_cons_of_mem _ hy)
    omega
theorem rp_ab (l : List Str) (h : ∀ x ∈ l, AB x) (hl : l.length ≤ 8) : Rp (.tup (l.map .str)) := by
  refine ⟨.tuple (l.map .str), ?_, shbAll l, ?_, ?_⟩
  · unfold toPy
    rw [toPy_strs l h]
  · show (tupleText (PyData.shownAll (l.map PyData.str))).length ≤ sizeLine
    rw [shAll]
    have h1 := tup_le (l.map fun x => PyData.shown (.str x))
    have h2 := piled_ab l h
    exact sz (by omega)
  · show PyData.strOk (tupleText (PyData.shownAll (l.map PyData.str))) = true
    rw [shAll]
    refine strOk_tup _ fun t ht => ?_
    obtain ⟨x, hx, rfl⟩ := List.mem_map.mp ht
    exact (ab_ok (h x hx)).2.1
end K35


namespace K35
open PySem Mx
open L2 (Key)
section
variable {st : S} {Q : D → S → Prop} {es : Es}
theorem run_kdNin {kn : List (Str × Option D)} {a : Es → M D} : Rn (kdNin kn a es) st Q = Rn (a es) st fun x s => Rn (kdLook kn x) s fun r s2 => Q (.bl (!r.isSome)) s2 := by
  unfold kdNin
  simp only [run_bind, run_pure]
theorem run_kdIx {kn : List (Str × Option D)} {a : Es → M D} : Rn (kdIx kn a es) st Q = Rn (a es) st fun x s => Rn (kdLook kn x) s fun r s2 => match r with
    | some d => Q d s2
    | none => False := by
  unfold kdIx
  simp only [run_bind]
  congr 1
  funext x s
  congr 1
  funext r s2
  cases r <;> rfl
theorem run_kdLook {kn : List (Str × Option D)} {z : Str} {r : Option D} {QO : Option D → S → Prop} (h : look kn z = some r) : Rn (kdLook kn (.str z)) st QO = QO r st := run_some (by
  show (match look kn z with | some r => some (r, st) | none => none) = _
  rw [h])
theorem look_hit {z k : Str} {v : Option D} {r : List (Str × Option D)} (h : decide (k = z) = true) : look ((k, v) :: r) z = some v := if_pos (of_decide_eq_true h)
theorem look_off {z k : Str} {v : Option D} {r : List (Str × Option D)} (h : decide (k = z) = false) : look ((k, v) :: r) z = look r z := if_neg (of_decide_eq_false h)
theorem lkN : look kn_PARTS "none" = some (some (.int 1)) := look_hit (by decide +kernel)
theorem lkI : look kn_PARTS "item" = some (some (.int 2)) := by
  unfold kn_PARTS
  rw [look_off (by decide +kernel), look_hit (by decide +kernel)]
theorem lkR : look kn_PARTS "row" = some (some (.int 3)) := by
  unfold kn_PARTS
  rw [look_off (by decide +kernel), look_off (by decide +kernel), look_hit (by decide +kernel)]
theorem lkE : look kn_PARTS "either" = some (some (.int 3)) := by
  unfold kn_PARTS
  rw [look_off (by decide +kernel), look_off (by decide +kernel), look_off (by decide +kernel), look_hit (by decide +kernel)]
theorem lkM : look kn_PARTS "many" = some (some (.int 2)) := by
  unfold kn_PARTS
  rw [look_off (by decide +kernel), look_off (by decide +kernel), look_off (by decide +kernel), look_off (by decide +kernel), look_hit (by decide +kernel)]
theorem lkS : look kn_PARTS "some" = some none := by
  unfold kn_PARTS
  rw [look_off (by decide +kernel), look_off (by decide +kernel), look_off (by decide +kernel), look_off (by decide +kernel), look_off (by decide +kernel), look_hit (by decide +kernel)]
theorem isT_tup {ds : List D} : Rn (on2 isi1 [.tup ds, .ty .tuple]) st Q = Q (.bl true) st := rfl
theorem isT_ref {n : Nat} {xs : List D} (h : st[n]? = some (.lst xs)) : Rn (on2 isi1 [.ref n, .ty .tuple]) st Q = Q (.bl false) st := run_some (by
  have e : tyD st (.ref n) = some .list := by
    show (match st[n]? with | some (.lst _) => some Ty.list | some (.dic _) => some .dict | some (.dit _) => some .dict | some (.dif _) => some .dict | none => none) = _
    rw [h]
  show isi1 (.ref n) (.ty .tuple) st = _
  unfold isi1
  rw [e]
  rfl)
theorem isT_non : Rn (on2 isi1 [.non, .ty .tuple]) st Q = Q (.bl false) st := rfl
theorem isS_str {x : Str} : Rn (on2 isi1 [.str x, .ty .str]) st Q = Q (.bl true) st := rfl
theorem isS_int {x : Int} : Rn (on2 isi1 [.int x, .ty .str]) st Q = Q (.bl false) st := rfl
end
end K35


namespace K35
open PySem Mx
open L2 (Key)
theorem neq_nil {p : Pat Str} (h : p.deep ≤ 60) (ho : Ok id p) {st : S} {Q : D → S → Prop} : Rn (eqO (p.toD id) (.tup [])) st Q = Q (.bl false) st := by
  obtain ⟨ps, e⟩ := toPy_pat id p 64 (by omega) ho
  have e3 : toPy st 64 (.tup []) = some (.tuple []) := rfl
  rw [run_eqO, toPy_pure e (Nat.le_refl _), e3]
  show Q (.bl (PyData.eqv (.tuple (.str p.hd :: ps)) (.tuple []))) st = _
  rw [PyData.eqv, PyData.eqvAll]
theorem bools_map : ∀ l : List Bool, boolsOf (l.map .bl) = some l
  | [] => rfl
  | b :: l => by rw [List.map_cons, boolsOf, bools_map l]
theorem run_allR {st : S} {Q : D → S → Prop} {n : Nat} {l : List Bool} (h : st[n]? = some (.lst (l.map .bl))) : Rn (on1 allD [.ref n]) st Q = Q (.bl (l.all id)) st := by
  show Rn (lstAt n >>= _) st Q = _
  rw [run_bind, run_some (lstAt_of h), bools_map]
  rfl
def inN (NM : List Str) (p : Pat Str) : Bool := p.items.all fun a => decide (a ∈ NM)
theorem within_none (NM : List Str) (n m k : Nat) (st : S) : Rn (tb (k + 1) .Fis_pattern_within [Pat.toD id (.none : Pat Str), .ref n, .int m]) st fun d s => d = .bl (decide (1 ≤ m)) ∧ ∃ ex, s = st ++ ex := by
  rw [t_b_is_pattern_within]
  have e : ∀ {st : S} {Q : D → S → Prop}, Rn (eqO (.tup [.str "none"]) (.tup [])) st Q = Q (.bl false) st := fun {st Q} => neq_nil (p := .none) (by decide) (fun a ha => by cases ha)
  cases m with
  | zero => simp [b_is_pattern_within, Pat.toD]
  | succ m =>
    have h1 : decide ((m : Int) + 1 = 0) = false := by simp; omega
    simp [b_is_pattern_within, Pat.toD, isT_tup, isS_str, e, run_kdNin, run_kdIx, run_kdLook lkN, h1, lacE L0_eq, seq_at, lapOf]
    rw [run_allR (l := []) (by simp)]
    simp
theorem any_str {x : Str} : ∀ {l : List Str}, ((l.map D.str).any fun z => eq1 z (.str x)) = decide (x ∈ l)
  | [] => rfl
  | y :: l => by
    rw [List.map_cons, List.any_cons, any_str]
    show ((y == x) || decide (x ∈ l)) = _
    by_cases h : y = x
    · simp [h]
    · simp [h, Ne.symm h]
theorem flat_strs : ∀ l : List Str, (l.map D.str).all flatD = true
  | [] => rfl
  | y :: l => by rw [List.map_cons, List.all_cons, flat_strs]; rfl
theorem in_names {st : S} {Q : D → S → Prop} {n : Nat} {x : Str} {l : List Str} (h : st[n]? = some (.lst (l.map .str))) : Rn (inO (.str x) (.ref n)) st Q = Q (.bl (decide (x ∈ l))) st := by
  rw [run_inFlat h (by rw [flat_strs]; rfl), any_str]
theorem within_item (NM : List Str) (n m k : Nat) (st : S) (a : Str) (ha : PyData.strOk a = true) (h : st[n]? = some (.lst (NM.map .str))) : Rn (tb (k + 1) .Fis_pattern_within [Pat.toD id (.item a), .ref n, .int m]) st fun d s => d = .bl (decide (1 ≤ m) && decide (a ∈ NM)) ∧ ∃ ex, s = st ++ ex := by
  rw [t_b_is_pattern_within]
  have e : ∀ {st : S} {Q : D → S → Prop}, Rn (eqO (.tup [.str "item", .str a]) (.tup [])) st Q = Q (.bl false) st := fun {st Q} => neq_nil (p := .item a) (by show 1 ≤ 60; decide) (fun b hb => by rw [List.mem_singleton.mp hb]; exact ha)
  cases m with
  | zero => simp [b_is_pattern_within, Pat.toD]
  | succ m =>
    have h1 : decide ((m : Int) + 1 = 0) = false := by simp; omega
    simp [b_is_pattern_within, Pat.toD, isT_tup, isS_str, e, run_kdNin, run_kdIx, run_kdLook lkI, h1, in_names h]
end K35


namespace K35
open PySem Mx
open L2 (Key)
def wi (NM : List Str) (p : Pat Str) (m : Nat) : Bool := decide (p.deep ≤ m) && inN NM p
theorem within_many (NM : List Str) (n m k : Nat) (st : S) (p : Pat Str) (hp : p.deep ≤ 50) (ho : Ok id p) (ih : ∀ st, st[n]? = some (.lst (NM.map .str)) → Rn (tb k .Fis_pattern_within [p.toD id, .ref n, .int m]) st fun d s => d = .bl (wi NM p m) ∧ ∃ ex, s = st ++ ex) (h : st[n]? = some (.lst (NM.map .str))) :
    Rn (tb (k + 1) .Fis_pattern_within [Pat.toD id (.many p), .ref n, .int (m + 1 : Nat)]) st fun d s => d = .bl (wi NM p m) ∧ ∃ ex, s = st ++ ex := by
  rw [t_b_is_pattern_within]
  have e : ∀ {st : S} {Q : D → S → Prop}, Rn (eqO (.tup [.str "many", p.toD id]) (.tup [])) st Q = Q (.bl false) st := fun {st Q} => neq_nil (p := .many p) (by show 1 + p.deep ≤ 60; omega) ho
  have h1 : decide ((m : Int) + 1 = 0) = false := by simp; omega
  simp [b_is_pattern_within, Pat.toD, isT_tup, isS_str, e, run_kdNin, run_kdIx, run_kdLook lkM, h1, lacE L0_eq, lacE N1_eq, seq_at, lapOf, wipeE]
  refine (ih st h).mono fun d s ⟨e1, ex, e2⟩ => ?_
  subst e1 e2
  simp [sz3]
  rw [run_allR (l := [wi NM p m]) (by simp)]
  simp
theorem within_two (NM : List Str) (n m k : Nat) (st : S) (p q r : Pat Str) (h0 : Str) (hr : r.toD id = .tup [.str h0, p.toD id, q.toD id]) (hl : look kn_PARTS h0 = some (some (.int 3))) (hi : ∀ {st : S} {Q : D → S → Prop}, Rn (eqO (.str h0) (.str "item")) st Q = Q (.bl false) st) (hd : r.deep ≤ 60) (ho : Ok id r)
    (ih : ∀ st, st[n]? = some (.lst (NM.map .str)) → Rn (tb k .Fis_pattern_within [p.toD id, .ref n, .int m]) st fun d s => d = .bl (wi NM p m) ∧ ∃ ex, s = st ++ ex)
    (ih2 : ∀ st, st[n]? = some (.lst (NM.map .str)) → Rn (tb k .Fis_pattern_within [q.toD id, .ref n, .int m]) st fun d s => d = .bl (wi NM q m) ∧ ∃ ex, s = st ++ ex) (h : st[n]? = some (.lst (NM.map .str))) :
    Rn (tb (k + 1) .Fis_pattern_within [r.toD id, .ref n, .int (m + 1 : Nat)]) st fun d s => d = .bl (wi NM p m && wi NM q m) ∧ ∃ ex, s = st ++ ex := by
  rw [t_b_is_pattern_within]
  have e : ∀ {st : S} {Q : D → S → Prop}, Rn (eqO (r.toD id) (.tup [])) st Q = Q (.bl false) st := fun {st Q} => neq_nil hd ho
  rw [hr] at e ⊢
  have h1 : decide ((m : Int) + 1 = 0) = false := by simp; omega
  simp [b_is_pattern_within, isT_tup, isS_str, e, run_kdNin, run_kdIx, run_kdLook hl, h1, hi, lacE L0_eq, lacE N1_eq, lacE N2_eq, seq_at, lapOf, wipeE]
  refine (ih st h).mono fun d s ⟨e1, ex, e2⟩ => ?_
  subst e1 e2
  simp [sz3]
  refine (ih2 _ (ga h)).mono fun d s ⟨e1, ex2, e2⟩ => ?_
  subst e1 e2
  simp [sz3]
  rw [run_allR (l := [wi NM p m, wi NM q m]) (by simp)]
  simp
theorem wi_many {NM : List Str} {p : Pat Str} {m : Nat} : wi NM (.many p) (m + 1) = wi NM p m := by
  unfold wi
  rw [show inN NM (.many p) = inN NM p from rfl, show (Pat.many p).deep = 1 + p.deep from rfl]
  congr 1
  simp only [decide_eq_decide]
  omega
theorem wi_two {NM : List Str} {p q r : Pat Str} {m : Nat} (hi : r.items = p.items ++ q.items) (hd : r.deep = 1 + max p.deep q.deep) : wi NM r (m + 1) = (wi NM p m && wi NM q m) := by
  unfold wi inN
  rw [hi, hd, List.all_append]
  have : decide (1 + max p.deep q.deep ≤ m + 1) = (decide (p.deep ≤ m) && decide (q.deep ≤ m)) := by
    rw [← Bool.decide_and, decide_eq_decide]
    omega
  rw [this]
  cases decide (p.deep ≤ m) <;> cases decide (q.deep ≤ m) <;> simp
theorem within_zero (n k : Nat) (st : S) (d : D) : Rn (tb (k + 1) .Fis_pattern_within [d, .ref n, .int (0 : Nat)]) st fun d s => d = .bl false ∧ ∃ ex, s = st ++ ex := by
  rw [t_b_is_pattern_within]
  simp [b_is_pattern_within]
theorem within_ok (NM : List Str) (n : Nat) : ∀ (m : Nat) (p : Pat Str) (k : Nat) (st : S), m + 1 ≤ k → p.deep ≤ 50 → Ok id p → st[n]? = some (.lst (NM.map .str)) → Rn (tb k .Fis_pattern_within [p.toD id, .ref n, .int m]) st fun d s => d = .bl (wi NM p m) ∧ ∃ ex, s = st ++ ex
  | m, p, 0, st, h, _, _, _ => by omega
  | 0, p, k + 1, st, _, _, _, _ => by
    have : wi NM p 0 = false := by unfold wi; have := deep_pos p; simp; omega
    rw [this]
    exact within_zero n k st _
  | m + 1, .none, k + 1, st, _, _, _, _ => by
    have : wi NM .none (m + 1) = decide (1 ≤ m + 1) := by simp [wi, inN, Pat.items, Pat.deep]
    rw [this]
    exact within_none NM n (m + 1) k st
  | m + 1, .item a, k + 1, st, _, _, ho, h => by
    have : wi NM (.item a) (m + 1) = (decide (1 ≤ m + 1) && decide (a ∈ NM)) := by simp [wi, inN, Pat.items, Pat.deep]
    rw [this]
    exact within_item NM n (m + 1) k st a (ho a (List.mem_cons_self ..)) h
  | m + 1, .many p, k + 1, st, hk, hd, ho, h => by
    have e : (Pat.many p).deep = 1 + p.deep := rfl
    rw [wi_many]
    exact within_many NM n m k st p (by omega) ho (fun st h => within_ok NM n m p k st (by omega) (by omega) ho h) h
  | m + 1, .row p q, k + 1, st, hk, hd, ho, h => by
    have e : (Pat.row p q).deep = 1 + max p.deep q.deep := rfl
    rw [wi_two (p := p) (q := q) rfl rfl]
    exact within_two NM n m k st p q (.row p q) "row" rfl lkR q_ri (by omega) ho (fun st h => within_ok NM n m p k st (by omega) (by omega) (fun a ha => ho a (List.mem_append_left _ ha)) h) (fun st h => within_ok NM n m q k st (by omega) (by omega) (fun a ha => ho a (List.mem_append_right _ ha)) h) h
  | m + 1, .either p q, k + 1, st, hk, hd, ho, h => by
    have e : (Pat.either p q).deep = 1 + max p.deep q.deep := rfl
    rw [wi_two (p := p) (q := q) rfl rfl]
    exact within_two NM n m k st p q (.either p q) "either" rfl lkE q_ei (by omega) ho (fun st h => within_ok NM n m p k st (by omega) (by omega) (fun a ha => ho a (List.mem_append_left _ ha)) h) (fun st h => within_ok NM n m q k st (by omega) (by omega) (fun a ha => ho a (List.mem_append_right _ ha)) h) h
end K35


namespace K35
open PySem Mx
open L2 (Key)
def ip (NM : List Str) (p : Pat Str) : Bool := wi NM p 6 && decide (p.items.length ≤ 8)
theorem is_pattern_ok (NM : List Str) (n k : Nat) (p : Pat Str) (st : S) (hk : 20 ≤ k) (hd : p.deep ≤ 18) (hi : p.items.length ≤ 1000) (ho : Ok id p) (h : st[n]? = some (.lst (NM.map .str))) :
    Rn (tb (k + 1) .Fis_pattern [p.toD id, .ref n]) st fun d s => d = .bl (ip NM p) ∧ ∃ ex, s = st ++ ex := by
  rw [t_b_is_pattern]
  simp [b_is_pattern]
  refine (within_ok NM n 6 p k st (by omega) (by omega) ho h).mono fun d s ⟨e1, ex, e2⟩ => ?_
  subst e1 e2
  cases hw : wi NM p 6 with
  | false => simp [ip, hw]
  | true =>
    simp
    refine (places_of id p k (by omega) hi).run fun ex2 => ?_
    simp [ip, hw, Pat.its]
    omega
end K35


namespace K35
open PySem Mx
open L2 (Key)
theorem look_no {k : Key} : ∀ {l : List (Key × D)}, k ∉ l.map (·.1) → look l k = none
  | [], _ => rfl
  | p :: r, h => by
    rw [List.map_cons, List.mem_cons, not_or] at h
    unfold look
    rw [if_neg fun e => h.1 e.symm]
    exact look_no h.2
theorem merge_nd : ∀ {m l : List (Key × D)}, ((l ++ m).map (·.1)).Nodup → merge l m = l ++ m
  | [], l, _ => by simp [merge]
  | p :: m, l, h => by
    have h' : ((l ++ [p] ++ m).map (·.1)).Nodup := by simpa using h
    have hp : p.1 ∉ l.map (·.1) := fun z => by
      rw [List.map_append] at h
      exact (List.nodup_append.mp h).2.2 _ z _ (List.mem_cons_self ..) rfl
    show merge (put l p.1 p.2) m = _
    unfold put
    rw [look_no hp]
    show merge (l ++ [p]) m = _
    rw [merge_nd h']
    simp
def k5 : List (Key × D) := [(.inr "none", .int 1), (.inr "item", .int 2), (.inr "row", .int 3), (.inr "either", .int 3), (.inr "many", .int 2)]
theorem merge5 : merge [] k5 = k5 := merge_nd (by show ((k5.map (·.1))).Nodup; show List.Nodup [(Sum.inr "none" : Key), .inr "item", .inr "row", .inr "either", .inr "many"]; decide +kernel)
section
variable {st : S} {Q : D → S → Prop} {es : Es} {n : Nat}
theorem run_disp5 : Rn (dispD ((cD (.str "none"), cD (.int 1)) :: (cD (.str "item"), cD (.int 2)) :: (cD (.str "row"), cD (.int 3)) :: (cD (.str "either"), cD (.int 3)) :: (cD (.str "many"), cD (.int 2)) :: []) es) st Q = Q (.ref st.length) (st ++ [.dic k5]) := by
  have e : ∀ st, pairsD ((cD (.str "none"), cD (.int 1)) :: (cD (.str "item"), cD (.int 2)) :: (cD (.str "row"), cD (.int 3)) :: (cD (.str "either"), cD (.int 3)) :: (cD (.str "many"), cD (.int 2)) :: []) es st = some (k5, st) := fun st => rfl
  show Rn (pairsD _ es >>= _) st Q = _
  rw [run_bind, run_some (e st), run_bind, run_guard]
  rw [merge5]
  simp [k5]
theorem run_ixS {z : Str} {kvs : List (Key × D)} (h : st[n]? = some (.dic kvs)) : Rn (ixD (.ref n) (.str z)) st Q = Rn (ofO (look kvs (.inr z))) st Q := rn_congr (by
  show ixRef n (.str z) st = _
  unfold ixRef
  rw [h]
  rfl)
theorem l5_off {k z : Str} {v : D} {r : List (Key × D)} (h : decide (k = z) = false) : look (((.inr k : Key), v) :: r) (.inr z) = look r (.inr z) := if_neg fun e => of_decide_eq_false h (Sum.inr.inj e)
theorem l5_hit {z : Str} {v : D} {r : List (Key × D)} : look (((.inr z : Key), v) :: r) (.inr z) = some v := if_pos rfl
theorem l5N : look k5 (.inr "none") = some (.int 1) := l5_hit
theorem l5I : look k5 (.inr "item") = some (.int 2) := by
  unfold k5
  rw [l5_off (by decide +kernel), l5_hit]
theorem l5R : look k5 (.inr "row") = some (.int 3) := by
  unfold k5
  rw [l5_off (by decide +kernel), l5_off (by decide +kernel), l5_hit]
theorem l5E : look k5 (.inr "either") = some (.int 3) := by
  unfold k5
  rw [l5_off (by decide +kernel), l5_off (by decide +kernel), l5_off (by decide +kernel), l5_hit]
theorem l5M : look k5 (.inr "many") = some (.int 2) := by
  unfold k5
  rw [l5_off (by decide +kernel), l5_off (by decide +kernel), l5_off (by decide +kernel), l5_off (by decide +kernel), l5_hit]
end
theorem endTwo (l : S) (x y : O) : (l ++ [x, y])[l.length + 1]? = some y := by simp
def PAB (p : Pat Str) : Prop := ∀ a ∈ p.items, AB a
theorem PAB.ok {p : Pat Str} (h : PAB p) : Ok id p := fun a ha => (ab_ok (h a ha)).1
theorem due_ok : ∀ (p : Pat Str) (k : Nat), p.deep ≤ k → p.deep ≤ 50 → PAB p → Gv (tb k .F_law_due [p.toD id]) (.bl true)
  | p, 0, h, _, _ => by have := deep_pos p; omega
  | .none, k + 1, h, hd, ha => gv_of fun st => by
    have e : ∀ {st : S} {Q : D → S → Prop}, Rn (eqO (.tup [.str "none"]) (.tup [])) st Q = Q (.bl false) st := fun {st Q} => neq_nil (p := .none) (by omega) ha.ok
    rw [t_b__law_due]
    simp [b__law_due, Pat.toD, isT_tup, e, sz, run_disp5, run_ixS gn, l5N, lacE L0_eq, seq_at, lapOf, wipeE]
    rw [run_eqL (l := []) (by simp) (by
      rw [List.getElem?_append_right (by omega), show List.length st + 1 + 1 - List.length st = 2 by omega]
      rfl)]
    simp
  | .item a, k + 1, h, hd, ha => gv_of fun st => by
    have e : ∀ {st : S} {Q : D → S → Prop}, Rn (eqO (.tup [.str "item", .str a]) (.tup [])) st Q = Q (.bl false) st := fun {st Q} => neq_nil (p := .item a) (by omega) ha.ok
    rw [t_b__law_due]
    simp [b__law_due, Pat.toD, isT_tup, e, sz, run_disp5, run_ixS gn, l5I]
    have hm : decide (a ∈ (["a", "b"] : List Str)) = true := by
      rcases ha a (List.mem_cons_self ..) with rfl | rfl <;> simp
    rw [in_names (l := ["a", "b"]) (by
      rw [List.getElem?_append_right (by omega), show List.length st + 1 - List.length st = 1 by omega]
      rfl), hm]
    simp
  | .many p, k + 1, h, hd, ha => gv_of fun st => by
    have ed : (Pat.many p).deep = 1 + p.deep := rfl
    have e : ∀ {st : S} {Q : D → S → Prop}, Rn (eqO (.tup [.str "many", p.toD id]) (.tup [])) st Q = Q (.bl false) st := fun {st Q} => neq_nil (p := .many p) (by omega) ha.ok
    rw [t_b__law_due]
    simp [b__law_due, Pat.toD, isT_tup, e, sz, run_disp5, run_ixS gn, l5M, lacE L0_eq, lacE N1_eq, seq_at, lapOf, wipeE]
    refine (due_ok p k (by omega) (by omega) ha).run fun ex => ?_
    simp
    rw [run_eqL (l := []) (by simp) (by simpa using endTwo (st ++ (O.dic k5 :: ex)) (.lst []) (.lst []))]
    simp
  | .row p q, k + 1, h, hd, ha => gv_of fun st => by
    have ed : (Pat.row p q).deep = 1 + max p.deep q.deep := rfl
    have e : ∀ {st : S} {Q : D → S → Prop}, Rn (eqO (.tup [.str "row", p.toD id, q.toD id]) (.tup [])) st Q = Q (.bl false) st := fun {st Q} => neq_nil (p := .row p q) (by omega) ha.ok
    rw [t_b__law_due]
    simp [b__law_due, Pat.toD, isT_tup, e, sz, run_disp5, run_ixS gn, l5R, lacE L0_eq, lacE N1_eq, lacE N2_eq, seq_at, lapOf, wipeE]
    refine (due_ok p k (by omega) (by omega) fun a h => ha a (List.mem_append_left _ h)).run fun ex => ?_
    simp
    refine (due_ok q k (by omega) (by omega) fun a h => ha a (List.mem_append_right _ h)).run fun ex2 => ?_
    simp
    rw [run_eqL (l := []) (by simp) (by simpa using endTwo (st ++ (O.dic k5 :: (ex ++ ex2))) (.lst []) (.lst []))]
    simp
  | .either p q, k + 1, h, hd, ha => gv_of fun st => by
    have ed : (Pat.either p q).deep = 1 + max p.deep q.deep := rfl
    have e : ∀ {st : S} {Q : D → S → Prop}, Rn (eqO (.tup [.str "either", p.toD id, q.toD id]) (.tup [])) st Q = Q (.bl false) st := fun {st Q} => neq_nil (p := .either p q) (by omega) ha.ok
    rw [t_b__law_due]
    simp [b__law_due, Pat.toD, isT_tup, e, sz, run_disp5, run_ixS gn, l5E, lacE L0_eq, lacE N1_eq, lacE N2_eq, seq_at, lapOf, wipeE]
    refine (due_ok p k (by omega) (by omega) fun a h => ha a (List.mem_append_left _ h)).run fun ex => ?_
    simp
    refine (due_ok q k (by omega) (by omega) fun a h => ha a (List.mem_append_right _ h)).run fun ex2 => ?_
    simp
    rw [run_eqL (l := []) (by simp) (by simpa using endTwo (st ++ (O.dic k5 :: (ex ++ ex2))) (.lst []) (.lst []))]
    simp
end K35


namespace K35
open PySem Mx
open L2 (Key)
/-! ### draws: rules for dicts and arithmetic -/
section
variable {st : S} {Q : D → S → Prop} {QE : Es → S → Prop} {es : Es} {n g c : Nat}
@[simp] theorem run_sub {o i : Es → M D} {d : D} : Rn (subG o i d es) st QE = Rn (o es) st fun x s => Rn (i es) s fun y s2 => Rn (setD x y d) s2 fun _ s3 => QE es s3 := by
  unfold subG
  simp only [run_bind, run_pure]
theorem run_setS {z : Str} {d : D} {kvs : List (Key × D)} {QU : Unit → S → Prop} (h : st[n]? = some (.dic kvs)) (hl : kvs.length ≤ 1000) : Rn (setD (.ref n) (.str z) d) st QU = QU () (st.set n (.dic (put kvs (.inr z) d))) := run_some (by
  show setRef n (.str z) d st = _
  unfold setRef
  rw [h]
  show dicPut n kvs (.str z) d st = _
  unfold dicPut
  show (if kvs.length < sizeLine then _ else _) = _
  rw [if_pos (sz3 (by omega))])
@[simp] theorem run_mulI {a b : Int} : Rn (binD .Mult (.int a) (.int b)) st Q = (mulOk a b = true ∧ Q (.int (a * b)) st) := by
  show Rn (guardM _ >>= _) st Q = _
  rw [run_bind, run_guard]
  rfl
@[simp] theorem run_modI {a b : Int} : Rn (binD .Mod (.int a) (.int b)) st Q = (b ≠ 0 ∧ Q (.int (a.fmod b)) st) := by
  show Rn (guardM _ >>= _) st Q = _
  rw [run_bind, run_guard, decide_eq_true_eq]
  rfl
@[simp] theorem run_fdivI {a b : Int} : Rn (binD .FloorDiv (.int a) (.int b)) st Q = ((b ≠ 0 ∧ b.natAbs < 1073741824) ∧ Q (.int (a.fdiv b)) st) := by
  show Rn (guardM _ >>= _) st Q = _
  rw [run_bind, run_guard, Bool.and_eq_true, decide_eq_true_eq, decide_eq_true_eq]
  rfl
@[simp] theorem run_powI {a b : Int} : Rn (binD .Pow (.int a) (.int b)) st Q = (((0 ≤ b ∧ b ≤ 1000000) ∧ a.natAbs < 2 ^ 64) ∧ Q (.int (a ^ b.toNat)) st) := by
  show Rn (guardM _ >>= _) st Q = _
  rw [run_bind, run_guard, Bool.and_eq_true, Bool.and_eq_true, decide_eq_true_eq, decide_eq_true_eq, decide_eq_true_eq]
  rfl
@[simp] theorem run_intI {a : Int} : Rn (on1 intD [.int a]) st Q = Q (.int a) st := rfl
@[simp] theorem run_absI {a : Int} : Rn (on1 absD [.int a]) st Q = Q (.int (if a < 0 then -a else a)) st := rfl
end
theorem mulOk_l {i j : Int} (h1 : -(2 ^ 64) < i) (h2 : i < 2 ^ 64) : mulOk i j = true := by
  unfold mulOk
  rw [show decide (-(2 ^ 64) < i) = true from decide_eq_true h1, show decide (i < 2 ^ 64) = true from decide_eq_true h2]
  rfl
theorem mulOk_r {i j : Int} (h1 : -(2 ^ 64) < j) (h2 : j < 2 ^ 64) : mulOk i j = true := by
  unfold mulOk
  rw [show decide (-(2 ^ 64) < j) = true from decide_eq_true h1, show decide (j < 2 ^ 64) = true from decide_eq_true h2]
  simp
/-- the dict of draws -/
def kvD (g c : Nat) (r t : Int) : List (Key × D) := [(.inr "great", .ref g), (.inr "cells", .ref c), (.inr "rest", .int r), (.inr "turn", .int t)]
theorem kd_g (g c : Nat) (r t : Int) : look (kvD g c r t) (.inr "great") = some (.ref g) := l5_hit
theorem kd_c (g c : Nat) (r t : Int) : look (kvD g c r t) (.inr "cells") = some (.ref c) := by
  unfold kvD
  rw [l5_off (by decide +kernel), l5_hit]
theorem kd_r (g c : Nat) (r t : Int) : look (kvD g c r t) (.inr "rest") = some (.int r) := by
  unfold kvD
  rw [l5_off (by decide +kernel), l5_off (by decide +kernel), l5_hit]
theorem kd_t (g c : Nat) (r t : Int) : look (kvD g c r t) (.inr "turn") = some (.int t) := by
  unfold kvD
  rw [l5_off (by decide +kernel), l5_off (by decide +kernel), l5_off (by decide +kernel), l5_hit]
theorem repl_off {k z : Str} {v d : D} {r : List (Key × D)} (h : decide (k = z) = false) : repl (((.inr k : Key), v) :: r) (.inr z) d = (.inr k, v) :: repl r (.inr z) d := by
  show (if (Sum.inr k : Key) = .inr z then _ else _) :: _ = _
  rw [if_neg fun e => of_decide_eq_false h (Sum.inr.inj e)]
theorem repl_hit {z : Str} {v d : D} {r : List (Key × D)} : repl (((.inr z : Key), v) :: r) (.inr z) d = (.inr z, d) :: repl r (.inr z) d := by
  show (if (Sum.inr z : Key) = .inr z then _ else _) :: _ = _
  rw [if_pos rfl]
theorem put_r (g c : Nat) (r t r2 : Int) : put (kvD g c r t) (.inr "rest") (.int r2) = kvD g c r2 t := by
  unfold put
  rw [kd_r]
  show repl (kvD g c r t) (.inr "rest") (.int r2) = _
  unfold kvD
  rw [repl_off (by decide +kernel), repl_off (by decide +kernel), repl_hit, repl_off (by decide +kernel)]
  rfl
theorem put_t (g c : Nat) (r t t2 : Int) : put (kvD g c r t) (.inr "turn") (.int t2) = kvD g c r t2 := by
  unfold put
  rw [kd_t]
  show repl (kvD g c r t) (.inr "turn") (.int t2) = _
  unfold kvD
  rw [repl_off (by decide +kernel), repl_off (by decide +kernel), repl_off (by decide +kernel), repl_hit]
  rfl
/-- the store holds a state of draws at n; turn at most T -/
structure Drw (n g c T : Nat) (st : S) : Prop where
  ng : n ≠ g
  nc : n ≠ c
  gc : g ≠ c
  dic : ∃ r t : Int, 0 ≤ r ∧ 0 ≤ t ∧ t ≤ T ∧ st[n]? = some (.dic (kvD g c r t))
  gr : ∃ gs : List Int, (∀ x ∈ gs, 0 ≤ x) ∧ gs.length ≤ 1000 ∧ st[g]? = some (.lst (gs.map .int))
  ce : ∃ cs : List Int, cs.length ≤ 1000 ∧ st[c]? = some (.lst (cs.map .int))
/-- what else stands in the store stays -/
def Kp (n g : Nat) (st s : S) : Prop := st.length ≤ s.length ∧ ∀ (i : Nat) (o : O), i ≠ n → i ≠ g → st[i]? = some o → s[i]? = some o
theorem Kp.refl (n g : Nat) (st : S) : Kp n g st st := ⟨Nat.le_refl _, fun _ _ _ _ h => h⟩
theorem Kp.trans {n g : Nat} {a b c : S} (h : Kp n g a b) (k : Kp n g b c) : Kp n g a c := ⟨Nat.le_trans h.1 k.1, fun i o h1 h2 e => k.2 i o h1 h2 (h.2 i o h1 h2 e)⟩
theorem Kp.app (n g : Nat) (st ex : S) : Kp n g st (st ++ ex) := ⟨by simp, fun i o _ _ e => ga e⟩
theorem Kp.set {n g m : Nat} {st : S} {o : O} (h : m = n ∨ m = g) : Kp n g st (st.set m o) := ⟨by simp, fun i o' h1 h2 e => by
  rw [List.getElem?_set_ne (by rcases h with rfl | rfl <;> omega)]
  exact e⟩
theorem Drw.app {n g c T : Nat} {st : S} (h : Drw n g c T st) (ex : S) : Drw n g c T (st ++ ex) := by
  obtain ⟨h1, h2, h3, ⟨r, t, e1, e2, e3, e4⟩, ⟨gs, e5, e6, e7⟩, ⟨cs, e8, e9⟩⟩ := h
  exact ⟨h1, h2, h3, ⟨r, t, e1, e2, e3, ga e4⟩, ⟨gs, e5, e6, ga e7⟩, ⟨cs, e8, ga e9⟩⟩
theorem Drw.up {n g c T T2 : Nat} {st : S} (h : Drw n g c T st) (i : T ≤ T2) : Drw n g c T2 st := by
  obtain ⟨h1, h2, h3, ⟨r, t, e1, e2, e3, e4⟩, h5, h6⟩ := h
  exact ⟨h1, h2, h3, ⟨r, t, e1, e2, by omega, e4⟩, h5, h6⟩
end K35


namespace K35
open PySem Mx
open L2 (Key)
theorem fmod_lt {a b : Int} (h : 0 < b) : 0 ≤ a.fmod b ∧ a.fmod b < b := ⟨Int.fmod_nonneg_of_pos a h, Int.fmod_lt_of_pos a h⟩
theorem mul_c1 (b : Int) : mulOk b 48271 = true := mulOk_r (by decide) (by decide)
theorem mul_c2 (b : Int) : mulOk b 2147483659 = true := mulOk_r (by decide) (by decide)
theorem mul_c3 (b : Int) : mulOk 69621 b = true := mulOk_l (by decide) (by decide)
theorem kvD_len {g c : Nat} {r t : Int} : (kvD g c r t).length ≤ 1000 := by show 4 ≤ 1000; decide
def primes : List Int := [2147483629, 2147483587, 2147483579, 2147483563]
theorem mixed_ok (k n g c T : Nat) (st : S) (h : Drw n g c T st) (hT : T ≤ 1000000) : Rn (tb (k + 1) .F_law_mixed [.ref n]) st fun d s => (∃ i : Int, 0 ≤ i ∧ d = .int i) ∧ Drw n g c (T + 1) s ∧ Kp n g st s := by
  obtain ⟨ng, nc, gc, ⟨r, t, r0, t0, tT, hd⟩, ⟨gs, g0, gl, hg⟩, ⟨cs, cl, hc⟩⟩ := h
  have nl : n < st.length := (List.getElem?_eq_some_iff.mp hd).1
  rw [t_b__law_mixed]
  simp [b__law_mixed, run_ixS hd, kd_t]
  rw [run_setS hd kvD_len]
  rw [put_t]
  have hd1 : (st.set n (.dic (kvD g c r (t + 1))))[n]? = some (.dic (kvD g c r (t + 1))) := List.getElem?_set_self nl
  have hc1 : (st.set n (.dic (kvD g c r (t + 1))))[c]? = some (.lst (cs.map .int)) := by rw [List.getElem?_set_ne nc]; exact hc
  have hg1 : (st.set n (.dic (kvD g c r (t + 1))))[g]? = some (.lst (gs.map .int)) := by rw [List.getElem?_set_ne ng]; exact hg
  have kp1 : Kp n g st (st.set n (.dic (kvD g c r (t + 1)))) := Kp.set (.inl rfl)
  generalize st.set n (.dic (kvD g c r (t + 1))) = s1 at hd1 hc1 hg1 kp1 ⊢
  simp [sz]
  rw [run_live gn]
  refine run_for (ds := primes.map .int) (fun i es s => ∃ (f : Int) (o1 o2 o3 : Option D) (ex : S), 0 ≤ f ∧ es = [some (.ref n), some (.int (t + 1)), some (.int f), o1, o2, o3] ∧ s = s1 ++ ex ∧ s[s1.length]? = some (.lst (primes.map .int))) (fun i es s ⟨f, o1, o2, o3, ex, e1, e2, e3, e4⟩ => live_at e4) ?_ ?_ _ _ _ _ ?_ ?_ ?_
  · rintro i d es s hd' ⟨f, o1, o2, o3, ex, f0, rfl, rfl, e4⟩
    obtain ⟨p, hp, rfl⟩ := memR (i := 0) hd'
    have hp2 : 0 < p ∧ p < 2147483648 := by
      have := List.mem_of_getElem? hp
      simp [primes] at this
      omega
    simp [mul_c3, run_ixS (ga hd1), kd_c]
    rw [run_live (ga hc1)]
    refine run_for (ds := cs.map .int) (fun j es s => ∃ (b : Int) (o3 : Option D), es = [some (.ref n), some (.int (t + 1)), some (.int f), some (.int p), some (.int b), o3] ∧ s = s1 ++ ex ∧ -(2 ^ 50) < b ∧ b < 2 ^ 50) (fun j es s ⟨b, o3, e1, e2, e3⟩ => live_at (by rw [e2]; exact ga hc1)) ?_ ?_ _ _ _ _ ?_ ?_ ?_
    · rintro j d es s hd'' ⟨b, o3, rfl, rfl, b1, b2⟩
      obtain ⟨x, hx, rfl⟩ := memR (i := 0) hd''
      have := fmod_lt (a := b * 48271 + x + (t + 1)) hp2.1
      simp [mul_c1]
      exact ⟨by omega, by omega, by omega⟩
    · rintro es s ⟨b, o3, rfl, rfl, b1, b2⟩
      have := fmod_lt (a := b ^ 5) hp2.1
      simp [mul_c2]
      refine ⟨by omega, by omega, _, ?_, rfl, e4⟩
      omega
    · exact lt0 (by simpa using cl)
    · exact Nat.zero_le _
    · refine ⟨_, _, rfl, rfl, ?_, ?_⟩
      · have : 0 ≤ p.fdiv 41 := Int.fdiv_nonneg (by omega) (by decide)
        omega
      · have : p.fdiv 41 ≤ p := Int.fdiv_le_self _ (by omega)
        omega
  · rintro es s ⟨f, o1, o2, o3, ex, f0, rfl, rfl, e4⟩
    simp
    refine ⟨f0, ⟨ng, nc, gc, ⟨r, t + 1, r0, by omega, by omega, ga hd1⟩, ⟨gs, g0, gl, ga hg1⟩, ⟨cs, cl, ga hc1⟩⟩, kp1.trans (Kp.app ..)⟩
  · exact lt0 (by decide)
  · exact Nat.zero_le _
  · exact ⟨0, none, none, none, [.lst (primes.map .int)], by decide, rfl, by simp [primes], by simp [primes]⟩
theorem run_neL {st : S} {Q : D → S → Prop} {n m : Nat} {l : List Int} (h : st[n]? = some (.lst (l.map .int))) (h2 : st[m]? = some (.lst [])) : Rn (neO (.ref n) (.ref m)) st Q = Q (.bl (!decide (l = []))) st := by
  have e : toPy st 64 (.ref n) = some (.list (l.map PyData.int)) := by
    unfold toPy
    rw [h]
    show (match mapO (toPy st 63) (l.map .int) with | some ps => some (PyData.list ps) | none => none) = _
    rw [toPy_ints l 62]
  have e2 : toPy st 64 (.ref m) = some (.list []) := by
    unfold toPy
    rw [h2]
    rfl
  rw [run_neO, e, e2]
  show Q (.bl (!PyData.eqv (.list (l.map PyData.int)) (.list []))) st = _
  cases l with
  | nil => rw [List.map_nil, PyData.eqv, PyData.eqvAll]; simp
  | cons j l => rw [List.map_cons, PyData.eqv, PyData.eqvAll]; simp
theorem run_pop0 {st : S} {Q : D → S → Prop} {n : Nat} {x : D} {xs : List D} (h : st[n]? = some (.lst (x :: xs))) : Rn (popD (.ref n) [.int 0]) st Q = Q x (st.set n (.lst xs)) := by
  show Rn (lstAt n >>= _) st Q = _
  rw [run_bind, run_some (lstAt_of h)]
  have e : seqIndex? 0 (x :: xs).length = some 0 := by
    unfold seqIndex?
    simp
  rw [e]
  rfl
theorem draw1 (k n g c T : Nat) (room : Int) (st : S) (h : Drw n g c T st) (hT : T ≤ 1000000) : Rn (ifD (tstD (opD eqO (opD ixD (varD 0) (cD (.str "rest"))) (cD (.int 0)))) (asgS (ifD (tstD (opD neO (opD ixD (varD 0) (cD (.str "great"))) (lstD (nilA)))) (lmD popD (opD ixD (varD 0) (cD (.str "great"))) (consA (cD (.int 0)) (nilA))) (callD (tb (k + 1) .F_law_mixed) (consA (varD 0) (nilA)))) (subG (varD 0) (cD (.str "rest")))) nxS [some (.ref n), some (.int room), none]) st fun p s => p = ([some (.ref n), some (.int room), none], .nx) ∧ Drw n g c (T + 1) s ∧ Kp n g st s := by
  have h' := h
  obtain ⟨ng, nc, gc, ⟨r, t, r0, t0, tT, hd⟩, ⟨gs, g0, gl, hg⟩, ⟨cs, cl, hc⟩⟩ := h
  by_cases hr : r = 0
  · subst hr
    simp [run_ixS hd, kd_r, kd_g]
    rw [run_neL (l := gs) (ga hg) (by simp)]
    cases gs with
    | nil =>
      simp
      refine (mixed_ok k n g c T (st ++ [.lst []]) (h'.app _) hT).mono fun d s ⟨⟨i, i0, e⟩, h2, kp⟩ => ?_
      subst e
      obtain ⟨ng, nc, gc, ⟨r, t, r0, t0, tT, hd⟩, ⟨gs, g0, gl, hg⟩, ⟨cs, cl, hc⟩⟩ := h2
      have nl : n < s.length := (List.getElem?_eq_some_iff.mp hd).1
      rw [run_setS hd kvD_len, put_r]
      refine ⟨⟨ng, nc, gc, ⟨i, t, i0, t0, tT, List.getElem?_set_self nl⟩, ⟨gs, g0, gl, ?_⟩, ⟨cs, cl, ?_⟩⟩, ((Kp.app ..).trans kp).trans (Kp.set (.inl rfl))⟩
      · rw [List.getElem?_set_ne ng]; exact hg
      · rw [List.getElem?_set_ne nc]; exact hc
    | cons x gs =>
      simp
      rw [run_ixS (ga hd), kd_g]
      simp
      rw [run_isLst (ga hg), run_pop0 (ga hg)]
      have hd2 : ((st ++ [O.lst []]).set g (.lst (gs.map .int)))[n]? = some (.dic (kvD g c 0 t)) := by rw [List.getElem?_set_ne (Ne.symm ng)]; exact ga hd
      have nl : n < ((st ++ [O.lst []]).set g (.lst (gs.map .int))).length := (List.getElem?_eq_some_iff.mp hd2).1
      have gl2 : g < (st ++ [O.lst []]).length := (List.getElem?_eq_some_iff.mp (ga hg)).1
      rw [run_setS hd2 kvD_len, put_r]
      refine ⟨⟨ng, nc, gc, ⟨x, t, g0 x (List.mem_cons_self ..), t0, by omega, List.getElem?_set_self nl⟩, ⟨gs, fun y hy => g0 y (List.mem_cons_of_mem _ hy), by simp at gl; omega, ?_⟩, ⟨cs, cl, ?_⟩⟩, ((Kp.app ..).trans (Kp.set (.inr rfl))).trans (Kp.set (.inl rfl))⟩
      · rw [List.getElem?_set_ne ng]; exact List.getElem?_set_self gl2
      · rw [List.getElem?_set_ne nc, List.getElem?_set_ne gc]; exact ga hc
  · simp [run_ixS hd, kd_r, hr]
    exact ⟨h'.up (by omega), Kp.refl ..⟩
/-- one draw: the state after it -/
theorem draw_ok (k n g c T : Nat) (room : Int) (st : S) (h : Drw n g c T st) (hT : T ≤ 1000000) (h1 : 0 < room) (h2 : room ≤ 1000) : Rn (tb (k + 2) .F_law_draw [.ref n, .int room]) st fun d s => (∃ i : Int, 0 ≤ i ∧ i < room ∧ d = .int i) ∧ Drw n g c (T + 1) s ∧ Kp n g st s := by
  rw [t_b__law_draw]
  simp only [b__law_draw, run_fn]
  refine ⟨rfl, ?_⟩
  rw [run_seq]
  refine (draw1 k n g c T room st h hT).mono fun p s ⟨e, h, kp⟩ => ?_
  subst e
  obtain ⟨ng, nc, gc, ⟨r, t, r0, t0, tT, hd⟩, ⟨gs, g0, gl, hg⟩, ⟨cs, cl, hc⟩⟩ := h
  have nl : n < s.length := (List.getElem?_eq_some_iff.mp hd).1
  have hm := fmod_lt (a := r) h1
  simp [run_ixS hd, kd_r]
  refine ⟨by omega, by omega, ?_⟩
  rw [run_setS hd kvD_len]
  refine ⟨hm, ⟨ng, nc, gc, ⟨r.fdiv room, t, Int.fdiv_nonneg r0 (by omega), t0, tT, ?_⟩, ⟨gs, g0, gl, ?_⟩, ⟨cs, cl, ?_⟩⟩, kp.trans (Kp.set (.inl rfl))⟩
  · rw [put_r]; exact List.getElem?_set_self nl
  · rw [List.getElem?_set_ne ng]; exact hg
  · rw [List.getElem?_set_ne nc]; exact hc
end K35


namespace K35
open PySem Mx
open L2 (Key)
theorem pick_ok (k n g c T m : Nat) (xs : List D) (st : S) (h : Drw n g c T st) (hT : T ≤ 1000000) (hm : st[m]? = some (.lst xs)) (mn : m ≠ n) (mg : m ≠ g) (h1 : 0 < xs.length) (h2 : xs.length ≤ 1000) : Rn (tb (k + 3) .F_law_pick [.ref n, .ref m]) st fun d s => d ∈ xs ∧ Drw n g c (T + 1) s ∧ Kp n g st s := by
  rw [t_b__law_pick]
  simp [b__law_pick, run_lenR hm]
  refine (draw_ok k n g c T xs.length st h hT (by omega) (by omega)).mono fun d s ⟨⟨i, i0, i1, e⟩, h3, kp⟩ => ?_
  subst e
  have hi : xs[i.toNat]? = some xs[i.toNat] := List.getElem?_eq_getElem (by omega)
  rw [run_ixR (kp.2 _ _ mn mg hm), at_pos i0 hi]
  simp
  exact ⟨h3, kp⟩
theorem Drw.lt {n g c T : Nat} {st : S} (h : Drw n g c T st) : n < st.length ∧ g < st.length := by
  obtain ⟨ng, nc, gc, ⟨r, t, r0, t0, tT, hd⟩, ⟨gs, g0, gl, hg⟩, ⟨cs, cl, hc⟩⟩ := h
  exact ⟨(List.getElem?_eq_some_iff.mp hd).1, (List.getElem?_eq_some_iff.mp hg).1⟩
theorem pickNew (k n g c T : Nat) (xs : List D) (st : S) (h : Drw n g c T st) (hT : T ≤ 1000000) (h1 : 0 < xs.length) (h2 : xs.length ≤ 1000) : Rn (tb (k + 3) .F_law_pick [.ref n, .ref st.length]) (st ++ [.lst xs]) fun d s => d ∈ xs ∧ Drw n g c (T + 1) s ∧ Kp n g st s := by
  have := h.lt
  refine (pick_ok k n g c T st.length xs (st ++ [.lst xs]) (h.app _) hT gn (by omega) (by omega) h1 h2).mono fun d s ⟨e1, e2, e3⟩ => ?_
  exact ⟨e1, e2, (Kp.app ..).trans e3⟩
/-- draws of a pattern at most -/
def Bd : Nat → Nat
  | 0 => 2
  | n + 1 => 2 + (Bd n + Bd n)
def sp1 (L : Nat) (g : Fn → List D → M D) : Es → M (Es × Fl) := asgS (ifD (tstD (opD gtO (varD 2) (cD (.int 1)))) (callD (g .F_law_draw) (consA (varD 0) (consA (cD (.int 7)) (nilA)))) (callD (g .F_law_draw) (consA (varD 0) (consA (cD (.int 2)) (nilA))))) (nameG 3)
def sp2 (L : Nat) (g : Fn → List D → M D) : Es → M (Es × Fl) := ifD (tstD (opD eqO (varD 3) (cD (.int 0)))) (retS (tupD (consA (cD (.str "none")) (nilA)))) (nxS)
def sp3 (L : Nat) (g : Fn → List D → M D) : Es → M (Es × Fl) := ifD (tstD (opD ltO (varD 3) (cD (.int 3)))) (retS (tupD (consA (cD (.str "item")) (consA (callD (g .F_law_pick) (consA (varD 0) (consA (varD 1) (nilA)))) (nilA))))) (nxS)
def sp4 (L : Nat) (g : Fn → List D → M D) : Es → M (Es × Fl) := ifD (tstD (opD eqO (varD 3) (cD (.int 3)))) (retS (tupD (consA (cD (.str "many")) (consA (callD (g .F_law_some_pattern) (consA (varD 0) (consA (varD 1) (consA (opD (binD .Sub) (varD 2) (cD (.int 1))) (nilA))))) (nilA))))) (nxS)
def sp5 (L : Nat) (g : Fn → List D → M D) : Es → M (Es × Fl) := retS (tupD (consA (callD (g .F_law_pick) (consA (varD 0) (consA (lstD (consA (cD (.str "row")) (consA (cD (.str "row")) (consA (cD (.str "either")) (nilA))))) (nilA)))) (consA (callD (g .F_law_some_pattern) (consA (varD 0) (consA (varD 1) (consA (opD (binD .Sub) (varD 2) (cD (.int 1))) (nilA))))) (consA (callD (g .F_law_some_pattern) (consA (varD 0) (consA (varD 1) (consA (opD (binD .Sub) (varD 2) (cD (.int 1))) (nilA))))) (nilA)))))
theorem b__law_some_pattern_cut (L : Nat) (g : Fn → List D → M D) : b__law_some_pattern L g = seqS (sp1 L g) (seqS (sp2 L g) (seqS (sp3 L g) (seqS (sp4 L g) (sp5 L g)))) := rfl
theorem some1 (n g c m k T : Nat) (dp : Nat) (st : S) (h : Drw n g c T st) (hT : T ≤ 1000000) : Rn (sp1 L0 (tb (k + 3)) [some (.ref n), some (.ref m), some (.int dp), none]) st fun p s => ∃ i : Int, 0 ≤ i ∧ i < 7 ∧ (dp ≤ 1 → i < 2) ∧ p = ([some (.ref n), some (.ref m), some (.int dp), some (.int i)], .nx) ∧ Drw n g c (T + 1) s ∧ Kp n g st s := by
  simp [sp1]
  by_cases hd : 1 < dp
  · rw [if_pos (by omega)]
    refine (draw_ok (k + 1) n g c T 7 st h hT (by decide) (by decide)).mono fun d s ⟨⟨i, i0, i1, e⟩, h3, kp⟩ => ?_
    exact ⟨i, i0, i1, by omega, by subst e; rfl, h3, kp⟩
  · rw [if_neg (by omega)]
    refine (draw_ok (k + 1) n g c T 2 st h hT (by decide) (by decide)).mono fun d s ⟨⟨i, i0, i1, e⟩, h3, kp⟩ => ?_
    exact ⟨i, i0, by omega, by omega, by subst e; rfl, h3, kp⟩
def AB2 : List D := [.str "a", .str "b"]
theorem some_ok (n g c m : Nat) (mn : m ≠ n) (mg : m ≠ g) : ∀ (dp k T : Nat) (st : S), Drw n g c T st → st[m]? = some (.lst AB2) → dp + 5 ≤ k → T + Bd dp ≤ 1000000 →
    Rn (tb k .F_law_some_pattern [.ref n, .ref m, .int dp]) st fun d s => ∃ p : Pat Str, d = p.toD id ∧ p.deep ≤ max dp 1 ∧ PAB p ∧ Drw n g c (T + Bd dp) s ∧ Kp n g st s
  | dp, 0, T, st, h, hm, hk, hT => by omega
  | dp, k + 1, T, st, h, hm, hk, hT => by
    obtain ⟨k, rfl⟩ : ∃ k', k = k' + 3 := ⟨k - 3, by omega⟩
    have hB : 2 ≤ Bd dp := by cases dp <;> simp [Bd] <;> omega
    rw [t_b__law_some_pattern]
    simp only [b__law_some_pattern_cut, run_fn]
    refine ⟨rfl, ?_⟩
    rw [run_seq]
    refine (some1 n g c m k T dp st h (by omega)).mono fun p s ⟨i, i0, i1, i2, e, h1, kp1⟩ => ?_
    subst e
    have hm1 := kp1.2 _ _ mn mg hm
    by_cases e0 : i = 0
    · subst e0
      simp [sp2, sz]
      exact ⟨.none, rfl, by simp [Pat.deep]; omega, fun a ha => by simp [Pat.items] at ha, h1.up (by omega), kp1⟩
    by_cases e1 : i < 3
    · simp [sp2, sp3, sz, e0, e1]
      refine (pick_ok k n g c (T + 1) m AB2 s h1 (by omega) hm1 mn mg (by decide) (by decide)).mono fun d s2 ⟨h2, h3, kp2⟩ => ?_
      simp [AB2] at h2
      obtain ⟨x, rfl, hx⟩ : ∃ x : Str, d = .str x ∧ AB x := by
        rcases h2 with rfl | rfl
        · exact ⟨_, rfl, .inl rfl⟩
        · exact ⟨_, rfl, .inr rfl⟩
      exact ⟨.item x, rfl, by simp [Pat.deep]; omega, fun a ha => by simp [Pat.items] at ha; subst ha; exact hx, h3.up (by omega), kp1.trans kp2⟩
    have hd : 1 < dp := by omega
    obtain ⟨dp, rfl⟩ : ∃ d', dp = d' + 1 := ⟨dp - 1, by omega⟩
    have hB2 : Bd (dp + 1) = 2 + (Bd dp + Bd dp) := rfl
    have ed : ((dp + 1 : Nat) : Int) - 1 = (dp : Nat) := by omega
    by_cases e3 : i = 3
    · subst e3
      simp [sp2, sp3, sp4, sz]
      refine (some_ok n g c m mn mg dp (k + 3) (T + 1) s h1 hm1 (by omega) (by omega)).mono fun d s2 ⟨p, e, h2, h3, h4, kp2⟩ => ?_
      subst e
      exact ⟨.many p, rfl, by simp [Pat.deep]; omega, h3, h4.up (by omega), kp1.trans kp2⟩
    · simp [sp2, sp3, sp4, sp5, sz, e0, e1, e3]
      refine (pickNew k n g c (T + 1) [.str "row", .str "row", .str "either"] s h1 (by omega) (by decide) (by decide)).mono fun x s2 ⟨hx, h2, kp2⟩ => ?_
      have hm2 := kp2.2 _ _ mn mg hm1
      refine (some_ok n g c m mn mg dp (k + 3) (T + 2) s2 h2 hm2 (by omega) (by omega)).mono fun d s3 ⟨p, e, p1, p2, h3, kp3⟩ => ?_
      subst e
      have hm3 := kp3.2 _ _ mn mg hm2
      refine (some_ok n g c m mn mg dp (k + 3) (T + 2 + Bd dp) s3 h3 hm3 (by omega) (by omega)).mono fun d s4 ⟨q, e, q1, q2, h4, kp4⟩ => ?_
      subst e
      have kp := ((kp1.trans kp2).trans kp3).trans kp4
      have hB3 : Drw n g c (T + Bd (dp + 1)) s4 := h4.up (by omega)
      have hx' : x = .str "row" ∨ x = .str "either" := by simpa using hx
      rcases hx' with rfl | rfl
      · exact ⟨.row p q, rfl, by simp [Pat.deep]; omega, fun a ha => (List.mem_append.mp ha).elim (p2 a) (q2 a), hB3, kp⟩
      · exact ⟨.either p q, rfl, by simp [Pat.deep]; omega, fun a ha => (List.mem_append.mp ha).elim (p2 a) (q2 a), hB3, kp⟩
end K35


namespace K35
open PySem Mx
open L2 (Key)
theorem run_disp {prs : List ((Es → M D) × (Es → M D))} {es : Es} {st : S} {Q : D → S → Prop} : Rn (dispD prs es) st Q = Rn (pairsD prs es) st fun kvs s => kvs.length ≤ 15 ∧ Q (.ref s.length) (s ++ [.dic (merge [] kvs)]) := by
  unfold dispD
  simp only [run_bind, run_guard, run_new, decide_eq_true_eq]
theorem run_pnil {es : Es} {st : S} {QL : List (Key × D) → S → Prop} : Rn (pairsD [] es) st QL = QL [] st := rfl
theorem run_pcons {z : Str} {b : Es → M D} {r : List ((Es → M D) × (Es → M D))} {es : Es} {st : S} {QL : List (Key × D) → S → Prop} : Rn (pairsD ((cD (.str z), b) :: r) es) st QL = Rn (b es) st fun y s => Rn (pairsD r es) s fun kvs s2 => QL ((.inr z, y) :: kvs) s2 := by
  have e : pairsD ((cD (.str z), b) :: r) es = (do
      let x ← cD (.str z) es
      let y ← b es
      match keyD x with
        | some k => do
          let rest ← pairsD r es
          pure ((k, y) :: rest)
        | none => fail) := rfl
  rw [e, run_bind, run_c, run_bind]
  congr 1
  funext y s
  show Rn (pairsD r es >>= _) s QL = _
  rw [run_bind]
  rfl
theorem merge_kvD (g c : Nat) : merge [] (kvD g c 0 0) = kvD g c 0 0 := merge_nd (by show ((kvD g c 0 0).map (·.1)).Nodup; show List.Nodup [(Sum.inr "great" : Key), .inr "cells", .inr "rest", .inr "turn"]; decide +kernel)
@[simp] theorem run_seqR {ds : List D} {st : S} {QR : Src → S → Prop} : Rn (seqSrc (.rol ds)) st QR = QR (.seq ds) st := rfl
theorem begun_ok (k : Nat) (ns : List Int) (hl : ns.length ≤ 63) (st : S) : Rn (tb (k + 1) .F_law_begun [.rol (ns.map .int)]) st fun d s => ∃ n g c, d = .ref n ∧ Drw n g c 0 s := by
  rw [t_b__law_begun]
  simp [b__law_begun, -run_lc]
  rw [run_lc]
  simp [-run_lc]
  refine run_lapC (ds := ns.map .int) (fun i acc s => ∃ gs : List Int, acc = gs.map .int ∧ gs.length ≤ i ∧ (∀ x ∈ gs, 0 ≤ x) ∧ s = st) (fun i acc s _ => rfl) ?_ ?_ _ _ _ _ ?_ ?_ ?_
  · rintro i d acc s hd ⟨gs, rfl, h1, h2, rfl⟩
    obtain ⟨x, hx, rfl⟩ := memR (i := 0) hd
    have hi : i < ns.length := (List.getElem?_eq_some_iff.mp hx).1
    simp [wipeE]
    generalize (if x < 0 then -x else x) = y
    split
    · rename_i hy
      refine ⟨sz3 (by omega), gs ++ [y - 1000000000000000000], by simp, by simp; omega, fun z hz => ?_⟩
      rcases List.mem_append.mp hz with hz | hz
      · exact h2 z hz
      · rw [List.mem_singleton.mp hz]; omega
    · exact ⟨gs, rfl, by omega, h2⟩
  · rintro acc s1 ⟨gs, rfl, h1, h2, rfl⟩
    simp [-run_lc, run_disp, run_pcons, run_pnil]
    rw [run_lc]
    simp [-run_lc]
    refine run_lapC (ds := ns.map .int) (fun i acc s => ∃ cs : List Int, acc = cs.map .int ∧ cs.length ≤ i ∧ s = s1 ++ [.lst (gs.map .int)]) (fun i acc s _ => rfl) ?_ ?_ _ _ _ _ ?_ ?_ ?_
    · rintro i d acc s hd ⟨cs, rfl, h3, rfl⟩
      obtain ⟨x, hx, rfl⟩ := memR (i := 0) hd
      have hi : i < ns.length := (List.getElem?_eq_some_iff.mp hx).1
      simp [wipeE]
      exact ⟨sz3 (by omega), cs ++ [if x < 0 then -x else x], by simp, by simp; omega⟩
    · rintro acc s ⟨cs, rfl, h3, rfl⟩
      simp at h1 h3
      simp
      refine ⟨s1.length, s1.length + 1, by omega, by omega, by omega, ⟨0, 0, by decide, by decide, by decide, ?_⟩, ⟨gs, h2, by omega, ?_⟩, ⟨cs, by omega, ?_⟩⟩
      · have := merge_kvD s1.length (s1.length + 1)
        unfold kvD at this
        rw [this]
        rw [List.getElem?_append_right (by omega), show s1.length + 1 + 1 - s1.length = 2 by omega]
        rfl
      · simp
      · simp
    · exact lt0 (by simpa using (by omega : ns.length ≤ 1000))
    · exact Nat.zero_le _
    · exact ⟨[], rfl, by simp, rfl⟩
  · exact lt0 (by simpa using (by omega : ns.length ≤ 1000))
  · exact Nat.zero_le _
  · exact ⟨[], rfl, by simp, by simp, rfl⟩
end K35


namespace K35
open PySem Mx
open L2 (Key)
def lw1 (L : Nat) (g : Fn → List D → M D) : Es → M (Es × Fl) := asgS (callD (g .F_law_begun) (consA (varD 0) (nilA))) (nameG 1)
def lw2 (L : Nat) (g : Fn → List D → M D) : Es → M (Es × Fl) := ifD (notT (tstD (callD (g .F_law_is) (consA (callD (g .Fmoves_of) (consA (tupD (consA (cD (.str "row")) (consA (tupD (consA (cD (.str "many")) (consA (tupD (consA (cD (.str "item")) (consA (cD (.str "a")) (nilA)))) (nilA)))) (consA (tupD (consA (cD (.str "either")) (consA (tupD (consA (cD (.str "item")) (consA (cD (.str "b")) (nilA)))) (consA (tupD (consA (cD (.str "none")) (nilA))) (nilA))))) (nilA))))) (nilA))) (consA (tupD (consA (tupD (consA (cD (.int 0)) (consA (cD (.int 1)) (nilA)))) (consA (tupD (consA (tupD (consA (cD (.int 0)) (consA (cD (.int 1)) (nilA)))) (consA (tupD (nilA)) (nilA)))) (consA (tupD (consA (cD (.int 0)) (consA (cD (.int 1)) (nilA)))) (consA (cD (.bl true)) (nilA)))))) (nilA)))))) (retS (cD (.bl false))) (nxS)
def lw3_1 (L : Nat) (g : Fn → List D → M D) : Es → M (Es × Fl) := asgS (callD (g .F_law_some_pattern) (consA (varD 1) (consA (lstD (consA (cD (.str "a")) (consA (cD (.str "b")) (nilA)))) (consA (callD (g .F_law_pick) (consA (varD 1) (consA (lstD (consA (cD (.int 3)) (consA (cD (.int 4)) (consA (cD (.int 6)) (nilA))))) (nilA)))) (nilA))))) (nameG 3)
def lw3_2 (L : Nat) (g : Fn → List D → M D) : Es → M (Es × Fl) := asgS (callD (g .F_law_items) (consA (varD 3) (nilA))) (nameG 4)
def lw3_3 (L : Nat) (g : Fn → List D → M D) : Es → M (Es × Fl) := asgS (andD (opD leO (callD (g .F_law_deep) (consA (varD 3) (nilA))) (cD (.int 6))) (opD leO (callD (on1 lenD) (consA (varD 4) (nilA))) (cD (.int 8)))) (nameG 5)
def lw3_4 (L : Nat) (g : Fn → List D → M D) : Es → M (Es × Fl) := ifD (orT (notT (tstD (callD (g .F_law_is) (consA (callD (g .Fis_pattern) (consA (varD 3) (consA (lstD (consA (cD (.str "a")) (consA (cD (.str "b")) (nilA)))) (nilA)))) (consA (varD 5) (nilA)))))) (tstD (opD neO (callKD (g .Fis_pattern) swapO (consA (lstD (consA (cD (.str "a")) (nilA))) (consA (varD 3) (nilA)))) (andD (varD 5) (opD ninO (cD (.str "b")) (varD 4)))))) (retS (cD (.bl false))) (nxS)
def lw3_5 (L : Nat) (g : Fn → List D → M D) : Es → M (Es × Fl) := ifD (notT (tstD (varD 5))) (ctS) (nxS)
def lw3_6 (L : Nat) (g : Fn → List D → M D) : Es → M (Es × Fl) := asgS (tupD (consA (callD (g .Fmoves_of) (consA (varD 3) (nilA))) (consA (callD (on1 lenD) (consA (varD 4) (nilA))) (nilA)))) (tupG 2 (consG (nameG 6) (consG (nameG 7) (nilG))))
def lw3_7 (L : Nat) (g : Fn → List D → M D) : Es → M (Es × Fl) := ifD (orT (notT (tstD (callD (g .F_law_is) (consA (callD (g .Fplaces_of) (consA (varD 3) (nilA))) (consA (callD (on1 tupleD) (consA (varD 4) (nilA))) (nilA)))))) (orT (tstD (opD neO (callKD (g .Fmoves_of) sameO (consA (varD 3) (nilA))) (varD 6))) (notT (tstD (callD (g .F_law_plain) (consA (varD 6) (nilA))))))) (retS (cD (.bl false))) (nxS)
def lw3_8 (L : Nat) (g : Fn → List D → M D) : Es → M (Es × Fl) := ifD (orT (tstD (opD neO (lcD L [18] (overS (opD (binD .Add) (lstD (consA (opD ixD (varD 6) (cD (.int 0))) (consA (opD ixD (varD 6) (cD (.int 2))) (nilA)))) (callD (on1 listD) (consA (opD ixD (varD 6) (cD (.int 1))) (nilA))))) (nameG 18) (tstD (opD neO (callD (on1 listD) (consA (varD 18) (nilA))) (ssetD (varD 18)))) (varD 18)) (lstD (nilA)))) (tstD (opD neO (callD (on1 lenD) (consA (opD ixD (varD 6) (cD (.int 1))) (nilA))) (varD 7)))) (retS (cD (.bl false))) (nxS)
def lw3_9 (L : Nat) (g : Fn → List D → M D) : Es → M (Es × Fl) := parS 8 9 (consA (callD (g .F_law_numbered) (consA (varD 3) (consA (cD (.int 0)) (nilA)))) (consA (lstD (consA (tupD (nilA)) (nilA))) (nilA)))
def lw3_10_1 (L : Nat) (g : Fn → List D → M D) : Es → M (Es × Fl) := asgS (lstD (nilA)) (nameG 11)
def lw3_10_2 (L : Nat) (g : Fn → List D → M D) : Es → M (Es × Fl) := forS L (overS (sliD (varD 9) (.at (unD negD (cD (.int 60)))) (.no))) (nameG 12) (asgS (opD (binD .Add) (varD 11) (lcD L [19] (rng1S (callD (on2 minD) (consA (varD 7) (consA (cD (.int 5)) (nilA))))) (nameG 19) (yesT) (opD (binD .Add) (varD 12) (tupD (consA (varD 19) (nilA)))))) (nameG 11))
def lw3_10_3 (L : Nat) (g : Fn → List D → M D) : Es → M (Es × Fl) := asgS (opD (binD .Add) (varD 9) (varD 11)) (nameG 9)
def lw3_10b (L : Nat) (g : Fn → List D → M D) : Es → M (Es × Fl) := seqS (lw3_10_1 L g) (seqS (lw3_10_2 L g) (lw3_10_3 L g))
def lw3_10 (L : Nat) (g : Fn → List D → M D) : Es → M (Es × Fl) := forS L (rng1S (cD (.int 3))) (nameG 10) (lw3_10b L g)
def lw3_11 (L : Nat) (g : Fn → List D → M D) : Es → M (Es × Fl) := forS L (rng1S (cD (.int 8))) (nameG 13) (dropS (lmD appendD (varD 9) (consA (ifD (tstD (opD gtO (varD 7) (cD (.int 0)))) (callD (on1 tupleD) (consA (lcD L [20] (rng1S (callD (g .F_law_draw) (consA (varD 1) (consA (cD (.int 6)) (nilA))))) (nameG 20) (yesT) (callD (g .F_law_draw) (consA (varD 1) (consA (varD 7) (nilA))))) (nilA))) (tupD (nilA))) (nilA))))
def lw3_12 (L : Nat) (g : Fn → List D → M D) : Es → M (Es × Fl) := forS L (overS (opD (binD .Add) (sliD (varD 9) (.no) (.at (cD (.int 150)))) (sliD (varD 9) (.at (unD negD (cD (.int 8)))) (.no)))) (nameG 12) (ifD (tstD (opD neO (callD (g .F_law_goes) (consA (varD 6) (consA (varD 12) (nilA)))) (callD (g .F_law_takes) (consA (varD 8) (consA (lcD L [19] (overS (varD 12)) (nameG 19) (yesT) (callD (on1 strD) (consA (varD 19) (nilA)))) (nilA)))))) (retS (cD (.bl false))) (nxS))
def lw3_13 (L : Nat) (g : Fn → List D → M D) : Es → M (Es × Fl) := parS 14 15 (consA (varD 3) (consA (varD 3) (nilA)))
def lw3_14 (L : Nat) (g : Fn → List D → M D) : Es → M (Es × Fl) := forS L (rng1S (opD (binD .Sub) (cD (.int 7)) (callD (g .F_law_deep) (consA (varD 3) (nilA))))) (nameG 13) (asgS (tupD (consA (cD (.str "many")) (consA (varD 14) (nilA)))) (nameG 14))
def lw3_15 (L : Nat) (g : Fn → List D → M D) : Es → M (Es × Fl) := loopS (tstD (opD ltO (callD (on1 lenD) (consA (callD (g .F_law_items) (consA (varD 15) (nilA))) (nilA))) (cD (.int 9)))) (asgS (tupD (consA (cD (.str "row")) (consA (varD 15) (consA (tupD (consA (cD (.str "item")) (consA (cD (.str "a")) (nilA)))) (nilA))))) (nameG 15)) L
def lw3_16_1 (L : Nat) (g : Fn → List D → M D) : Es → M (Es × Fl) := asgS (andD (callD (g .F_law_due) (consA (varD 16) (nilA))) (andD (opD leO (callD (g .F_law_deep) (consA (varD 16) (nilA))) (cD (.int 6))) (opD leO (callD (on1 lenD) (consA (callD (g .F_law_items) (consA (varD 16) (nilA))) (nilA))) (cD (.int 8))))) (nameG 17)
def lw3_16_2 (L : Nat) (g : Fn → List D → M D) : Es → M (Es × Fl) := ifD (notT (tstD (callD (g .F_law_is) (consA (callD (g .Fis_pattern) (consA (varD 16) (consA (lstD (consA (cD (.str "a")) (consA (cD (.str "b")) (nilA)))) (nilA)))) (consA (varD 17) (nilA)))))) (retS (cD (.bl false))) (nxS)
def lw3_16b (L : Nat) (g : Fn → List D → M D) : Es → M (Es × Fl) := seqS (lw3_16_1 L g) (lw3_16_2 L g)
def lw3_16 (L : Nat) (g : Fn → List D → M D) : Es → M (Es × Fl) := forS L (overS (lstD (consA (varD 14) (consA (varD 15) (consA (callD (on1 listD) (consA (varD 3) (nilA))) (consA (opD (binD .Add) (varD 3) (tupD (consA (cD (.str "none")) (nilA)))) (consA (tupD (nilA)) (consA (cD .non) (consA (tupD (consA (cD (.str "item")) (consA (cD (.str "c")) (nilA)))) (consA (tupD (consA (cD (.str "item")) (consA (cD (.int 5)) (nilA)))) (consA (tupD (consA (cD (.str "some")) (consA (varD 3) (nilA)))) (consA (tupD (consA (cD (.str "row")) (consA (varD 3) (nilA)))) (consA (tupD (consA (cD (.str "many")) (consA (varD 3) (consA (varD 3) (nilA))))) (consA (tupD (consA (cD (.str "item")) (consA (lstD (consA (cD (.str "a")) (nilA))) (nilA)))) (nilA))))))))))))))) (nameG 16) (lw3_16b L g)
def lw3b (L : Nat) (g : Fn → List D → M D) : Es → M (Es × Fl) := seqS (lw3_1 L g) (seqS (lw3_2 L g) (seqS (lw3_3 L g) (seqS (lw3_4 L g) (seqS (lw3_5 L g) (seqS (lw3_6 L g) (seqS (lw3_7 L g) (seqS (lw3_8 L g) (seqS (lw3_9 L g) (seqS (lw3_10 L g) (seqS (lw3_11 L g) (seqS (lw3_12 L g) (seqS (lw3_13 L g) (seqS (lw3_14 L g) (seqS (lw3_15 L g) (lw3_16 L g)))))))))))))))
def lw3 (L : Nat) (g : Fn → List D → M D) : Es → M (Es × Fl) := forS L (rng1S (cD (.int 5))) (nameG 2) (lw3b L g)
def lw4 (L : Nat) (g : Fn → List D → M D) : Es → M (Es × Fl) := retS (cD (.bl true))
theorem b_law_cut (L : Nat) (g : Fn → List D → M D) : b_law L g = seqS (lw1 L g) (seqS (lw2 L g) (seqS (lw3 L g) (lw4 L g))) := rfl
end K35


namespace K35
open PySem Mx
open L2 (Key)
theorem items_le : ∀ p : Pat Str, p.items.length ≤ 2 ^ p.deep
  | .none => Nat.zero_le _
  | .item _ => Nat.one_le_two_pow
  | .row p q => by
    have h1 := items_le p
    have h2 := items_le q
    have h3 : 2 ^ p.deep ≤ 2 ^ max p.deep q.deep := Nat.pow_le_pow_right (by decide) (Nat.le_max_left ..)
    have h4 : 2 ^ q.deep ≤ 2 ^ max p.deep q.deep := Nat.pow_le_pow_right (by decide) (Nat.le_max_right ..)
    unfold Pat.items Pat.deep
    rw [List.length_append, Nat.add_comm 1, Nat.pow_succ]
    omega
  | .either p q => by
    have h1 := items_le p
    have h2 := items_le q
    have h3 : 2 ^ p.deep ≤ 2 ^ max p.deep q.deep := Nat.pow_le_pow_right (by decide) (Nat.le_max_left ..)
    have h4 : 2 ^ q.deep ≤ 2 ^ max p.deep q.deep := Nat.pow_le_pow_right (by decide) (Nat.le_max_right ..)
    unfold Pat.items Pat.deep
    rw [List.length_append, Nat.add_comm 1, Nat.pow_succ]
    omega
  | .many p => by
    have h1 := items_le p
    unfold Pat.items Pat.deep
    rw [Nat.add_comm 1, Nat.pow_succ]
    omega
theorem lp1 (k n g c T : Nat) (st : S) (h : Drw n g c T st) (hT : T + 300 ≤ 1000000) (o0 o2 o3 o4 o5 o6 o7 o8 o9 o10 o11 o12 o13 o14 o15 o16 o17 o18 o19 o20 : Option D) : Rn (lw3_1 L0 (tb (k + 15)) [o0, some (.ref n), o2, o3, o4, o5, o6, o7, o8, o9, o10, o11, o12, o13, o14, o15, o16, o17, o18, o19, o20]) st fun p s => ∃ pt : Pat Str, p = ([o0, some (.ref n), o2, some (pt.toD id), o4, o5, o6, o7, o8, o9, o10, o11, o12, o13, o14, o15, o16, o17, o18, o19, o20], .nx) ∧ PAB pt ∧ pt.deep ≤ 6 ∧ Drw n g c (T + 300) s := by
  have hl := h.lt
  simp [lw3_1, sz]
  refine (pick_ok (k + 12) n g c T (st.length + 1) [.int 3, .int 4, .int 6] (st ++ [.lst AB2, .lst [.int 3, .int 4, .int 6]]) (h.app _) (by omega) (by simp) (by omega) (by omega) (by decide) (by decide)).mono fun x s ⟨hx, h1, kp⟩ => ?_
  have hm : s[st.length]? = some (.lst AB2) := kp.2 _ _ (by omega) (by omega) (by simp)
  obtain ⟨dp, rfl, hdp⟩ : ∃ dp : Nat, x = .int dp ∧ (dp = 3 ∨ dp = 4 ∨ dp = 6) := by
    simp at hx
    rcases hx with rfl | rfl | rfl
    · exact ⟨3, rfl, .inl rfl⟩
    · exact ⟨4, rfl, .inr (.inl rfl)⟩
    · exact ⟨6, rfl, .inr (.inr rfl)⟩
  have hB : Bd dp ≤ 254 ∧ dp ≤ 6 ∧ 1 ≤ dp := by rcases hdp with rfl | rfl | rfl <;> decide
  refine (some_ok n g c st.length (by omega) (by omega) dp (k + 15) (T + 1) s h1 hm (by omega) (by omega)).mono fun d s2 ⟨pt, e, h2, h3, h4, kp2⟩ => ?_
  subst e
  exact ⟨pt, rfl, h3, by omega, h4.up (by omega)⟩
theorem lp2 (k n g c T : Nat) (st : S) (h : Drw n g c T st) (p : Pat Str) (hp : p.deep ≤ 6) (o0 o2 o4 o5 o6 o7 o8 o9 o10 o11 o12 o13 o14 o15 o16 o17 o18 o19 o20 : Option D) : Rn (lw3_2 L0 (tb (k + 15)) [o0, some (.ref n), o2, some (p.toD id), o4, o5, o6, o7, o8, o9, o10, o11, o12, o13, o14, o15, o16, o17, o18, o19, o20]) st fun q s => ∃ m, q = ([o0, some (.ref n), o2, some (p.toD id), some (.ref m), o5, o6, o7, o8, o9, o10, o11, o12, o13, o14, o15, o16, o17, o18, o19, o20], .nx) ∧ Drw n g c T s ∧ s[m]? = some (.lst (p.its id)) := by
  have hi : p.items.length ≤ 1000 := Nat.le_trans (items_le p) (Nat.le_trans (Nat.pow_le_pow_right (by decide) hp) (by decide))
  simp [lw3_2]
  refine (items_ok id p (k + 15) (by omega) hi).run fun m ex hm hg => ?_
  exact ⟨m, rfl, h.app _, hg⟩
theorem lp3 (k n m : Nat) (st : S) (p : Pat Str) (hp : p.deep ≤ 6) (hm : st[m]? = some (.lst (p.its id))) (o0 o2 o5 o6 o7 o8 o9 o10 o11 o12 o13 o14 o15 o16 o17 o18 o19 o20 : Option D) : Rn (lw3_3 L0 (tb (k + 15)) [o0, some (.ref n), o2, some (p.toD id), some (.ref m), o5, o6, o7, o8, o9, o10, o11, o12, o13, o14, o15, o16, o17, o18, o19, o20]) st fun q s => q = ([o0, some (.ref n), o2, some (p.toD id), some (.ref m), some (.bl (decide (p.items.length ≤ 8))), o6, o7, o8, o9, o10, o11, o12, o13, o14, o15, o16, o17, o18, o19, o20], .nx) ∧ ∃ ex, s = st ++ ex := by
  simp [lw3_3]
  refine (deep_ok id p (k + 15) (by omega)).run fun ex => ?_
  have h6 : decide ((p.deep : Int) ≤ 6) = true := by simp; omega
  simp [h6, run_lenR (ga hm)]
  simp [Pat.its]
  omega
end K35


namespace K35
open PySem Mx
open L2 (Key)
def NM2 : List Str := ["a", "b"]
def NM1 : List Str := ["a"]
theorem PAB.all2 {p : Pat Str} (h : PAB p) : inN NM2 p = true := by
  unfold inN
  rw [List.all_eq_true]
  intro a ha
  rcases h a ha with rfl | rfl <;> simp [NM2]
theorem ne_ba : (("b" : Str) == "a") = false := by decide +kernel
theorem ab_ne : ("b" : Str) ≠ "a" := by
  intro h
  have := ne_ba
  rw [h] at this
  simp at this
theorem PAB.all1 {p : Pat Str} (h : PAB p) : inN NM1 p = !decide (("b" : Str) ∈ p.items) := by
  unfold inN
  rw [Bool.eq_iff_iff, List.all_eq_true]
  simp [NM1]
  constructor
  · intro i hb
    exact ab_ne (i "b" hb)
  · intro i a ha
    rcases h a ha with rfl | rfl
    · rfl
    · exact absurd ha i
theorem ip2 {p : Pat Str} (h : PAB p) : ip NM2 p = (decide (p.deep ≤ 6) && decide (p.items.length ≤ 8)) := by
  unfold ip wi
  rw [h.all2, Bool.and_true]
theorem nin_names {st : S} {Q : D → S → Prop} {n : Nat} {x : Str} {l : List Str} (h : st[n]? = some (.lst (l.map .str))) : Rn (ninO (.str x) (.ref n)) st Q = Q (.bl (!decide (x ∈ l))) st := by
  have e : inRef (.str x) n st = some (decide (x ∈ l), st) := by
    unfold inRef
    rw [h]
    have hf : (flatD (.str x) && (l.map D.str).all flatD) = true := by rw [flat_strs]; rfl
    simp only [hf]
    show inFlat (.str x) (l.map D.str) st = _
    unfold inFlat
    rw [hf, any_str]
    rfl
  unfold ninO
  rw [run_blM, run_bind]
  refine (run_some e).trans ?_
  rfl
theorem lp4 (k n m : Nat) (st : S) (p : Pat Str) (hp : p.deep ≤ 6) (ha : PAB p) (hm : st[m]? = some (.lst (p.its id))) (o0 o2 o6 o7 o8 o9 o10 o11 o12 o13 o14 o15 o16 o17 o18 o19 o20 : Option D) : Rn (lw3_4 L0 (tb (k + 25)) [o0, some (.ref n), o2, some (p.toD id), some (.ref m), some (.bl (decide (p.items.length ≤ 8))), o6, o7, o8, o9, o10, o11, o12, o13, o14, o15, o16, o17, o18, o19, o20]) st fun q s => q = ([o0, some (.ref n), o2, some (p.toD id), some (.ref m), some (.bl (decide (p.items.length ≤ 8))), o6, o7, o8, o9, o10, o11, o12, o13, o14, o15, o16, o17, o18, o19, o20], .nx) ∧ ∃ ex, s = st ++ ex := by
  have hi : p.items.length ≤ 1000 := Nat.le_trans (items_le p) (Nat.le_trans (Nat.pow_le_pow_right (by decide) hp) (by decide))
  have e2 : ip NM2 p = decide (p.items.length ≤ 8) := by rw [ip2 ha]; simp; omega
  simp [lw3_4, sz]
  have A := is_pattern_ok NM2 st.length (k + 24) p (st ++ [.lst [.str "a", .str "b"]]) (by omega) (by omega) hi ha.ok (by simp [NM2])
  refine A.mono fun d s ⟨e, ex, e3⟩ => ?_
  clear A
  subst e e3
  rw [e2]
  simp
  refine (is_ok (k + 24) (.bl (decide (p.items.length ≤ 8))) (by simp [pl]) (rp_bl _)).run fun ex2 => ?_
  simp [swapO]
  refine (is_pattern_ok NM1 _ (k + 24) p _ (by omega) (by omega) hi ha.ok ?hh).mono fun d s ⟨e, ex3, e3⟩ => ?_
  case hh =>
    have := gn (st := st ++ O.lst [.str "a", .str "b"] :: (ex ++ ex2)) (o := O.lst [.str "a"])
    simpa [NM1, Nat.add_assoc] using this
  subst e e3
  have e1 : ip NM1 p = (decide (p.items.length ≤ 8) && !decide (("b" : Str) ∈ p.items)) := by
    unfold ip wi
    rw [ha.all1]
    have : decide (p.deep ≤ 6) = true := by simp; omega
    rw [this]
    cases decide (p.items.length ≤ 8) <;> simp
  rw [e1]
  by_cases h8 : p.items.length ≤ 8
  · simp [h8]
    rw [nin_names (l := p.items) (by simpa [Pat.its] using ga hm)]
    simp
  · simp [h8]
end K35


namespace K35
open PySem Mx
open L2 (Key)
theorem toPy_tI {st : S} {n : Nat} (l : List Int) : toPy st (n + 2) (tI l) = some (.tuple (l.map PyData.int)) := by
  unfold tI toPy
  rw [toPy_ints l n]
theorem mapO_tI {st : S} {n : Nat} {β : Type} (f : β → List Int) : ∀ l : List β, mapO (toPy st (n + 2)) (l.map fun i => tI (f i)) = some (l.map fun i => PyData.tuple ((f i).map PyData.int))
  | [] => rfl
  | x :: l => by
    rw [List.map_cons]
    unfold mapO
    rw [toPy_tI, mapO_tI f l]
    rfl
theorem pu_mv (q : Pat Int) : Pu (mvD q) := by
  unfold Pu mvD
  have e1 : toPy [] 64 (.tup [tI (uniqI q.fst), .tup (q.items.map fun i => tI (uniqI (q.fol i))), tI (uniqI q.lst), .bl q.hollow]) = some (.tuple [.tuple ((uniqI q.fst).map PyData.int), .tuple (q.items.map fun i => PyData.tuple ((uniqI (q.fol i)).map PyData.int)), .tuple ((uniqI q.lst).map PyData.int), .bool q.hollow]) := by
    have e2 : toPy [] 63 (.tup (q.items.map fun i => tI (uniqI (q.fol i)))) = some (.tuple (q.items.map fun i => PyData.tuple ((uniqI (q.fol i)).map PyData.int))) := by
      unfold toPy
      rw [mapO_tI]
    unfold toPy mapO mapO mapO mapO mapO
    rw [toPy_tI, e2, toPy_tI]
    rfl
  rw [e1]
  rfl
theorem pl_ints (k : Nat) : ∀ l : List Int, (l.map D.int).all (pl (k + 1)) = true
  | [] => rfl
  | i :: l => by rw [List.map_cons, List.all_cons, pl_ints k l]; rfl
theorem pl_tI (k : Nat) (l : List Int) (h : l.length ≤ 1000) : pl (k + 2) (tI l) = true := by
  unfold tI pl
  rw [pl_ints, List.length_map]
  simp [h]
theorem pl_mv (k : Nat) (q : Pat Int) (h1 : q.items.length ≤ 8) (h2 : (uniqI q.fst).length ≤ 1000) (h3 : (uniqI q.lst).length ≤ 1000) (h4 : ∀ i, (uniqI (q.fol i)).length ≤ 1000) : pl (k + 4) (mvD q) = true := by
  have e2 : pl (k + 3) (.tup (q.items.map fun i => tI (uniqI (q.fol i)))) = true := by
    unfold pl
    rw [List.length_map, Bool.and_eq_true, decide_eq_true_eq, List.all_eq_true]
    refine ⟨by omega, fun x hx => ?_⟩
    obtain ⟨i, _, rfl⟩ := List.mem_map.mp hx
    exact pl_tI k _ (h4 i)
  unfold mvD pl
  rw [List.all_cons, List.all_cons, List.all_cons, List.all_cons, pl_tI (k + 1) _ h2, e2, pl_tI (k + 1) _ h3]
  rfl
theorem insU_len (k : Int) : ∀ l : List Int, (insU k l).length ≤ l.length + 1
  | [] => Nat.le_refl _
  | x :: r => by
    unfold insU
    split
    · simp
    · split
      · simp
      · have := insU_len k r
        simp
        omega
theorem uniqI_len : ∀ l : List Int, (uniqI l).length ≤ l.length
  | [] => Nat.le_refl _
  | k :: r => by
    have h1 := insU_len k (uniqI r)
    have h2 := uniqI_len r
    unfold uniqI
    simp
    omega
theorem insU_head {k : Int} : ∀ {l : List Int}, (∀ x ∈ l, k < x) → insU k l = k :: l
  | [], _ => rfl
  | x :: r, h => by
    unfold insU
    rw [if_pos (h x (List.mem_cons_self ..))]
theorem insU_sorted {k : Int} : ∀ {l : List Int}, l.Pairwise (· < ·) → (insU k l).Pairwise (· < ·)
  | [], _ => by simp [insU]
  | x :: r, h => by
    obtain ⟨h1, h2⟩ := List.pairwise_cons.mp h
    unfold insU
    split
    · rename_i hk
      exact List.pairwise_cons.mpr ⟨fun y hy => by
        rcases List.mem_cons.mp hy with rfl | hy
        · exact hk
        · exact Int.lt_trans hk (h1 y hy), h⟩
    · split
      · exact h
      · rename_i h3 h4
        refine List.pairwise_cons.mpr ⟨fun y hy => ?_, insU_sorted h2⟩
        rcases mem_insU.mp hy with rfl | hy
        · omega
        · exact h1 y hy
theorem uniqI_sorted : ∀ l : List Int, (uniqI l).Pairwise (· < ·)
  | [] => by simp [uniqI]
  | k :: r => insU_sorted (uniqI_sorted r)
theorem uniqI_of : ∀ {l : List Int}, l.Pairwise (· < ·) → uniqI l = l
  | [], _ => rfl
  | k :: r, h => by
    obtain ⟨h1, h2⟩ := List.pairwise_cons.mp h
    unfold uniqI
    rw [uniqI_of h2, insU_head h1]
theorem uniqI_twice (l : List Int) : uniqI (uniqI l) = uniqI l := uniqI_of (uniqI_sorted l)
theorem num_len8 {p : Pat Str} (hi : p.items.length ≤ 8) (hd : p.deep ≤ 6) : (p.num 0).items.length ≤ 8 ∧ ((p.num 0).fst).length ≤ 8 ∧ ((p.num 0).lst).length ≤ 8 ∧ ∀ i, ((p.num 0).fol i).length < 64 := by
  have z1 := Pat.fst_len (p.num 0)
  have z2 := Pat.lst_len (p.num 0)
  have z0 := Pat.num_len p 0
  rw [Pat.num_len] at z1 z2
  refine ⟨by omega, by omega, by omega, fun i => Nat.lt_of_le_of_lt (Pat.fol_len i _) ?_⟩
  rw [Pat.num_len, Pat.num_deep]
  exact Nat.lt_of_le_of_lt (Nat.mul_le_mul hd hi) (by decide)
theorem lp6 (k n m : Nat) (st : S) (p : Pat Str) (hp : p.deep ≤ 6) (hi : p.items.length ≤ 8) (hm : st[m]? = some (.lst (p.its id))) (o0 o2 o5 o6 o7 o8 o9 o10 o11 o12 o13 o14 o15 o16 o17 o18 o19 o20 : Option D) : Rn (lw3_6 L0 (tb (k + 25)) [o0, some (.ref n), o2, some (p.toD id), some (.ref m), o5, o6, o7, o8, o9, o10, o11, o12, o13, o14, o15, o16, o17, o18, o19, o20]) st fun q s => q = ([o0, some (.ref n), o2, some (p.toD id), some (.ref m), o5, some (mvD (p.num 0)), some (.int p.items.length), o8, o9, o10, o11, o12, o13, o14, o15, o16, o17, o18, o19, o20], .nx) ∧ ∃ ex, s = st ++ ex := by
  simp [lw3_6, sz]
  have A := moves_of_ok id p (k + 24) (by omega) hi (by omega)
  refine A.run fun ex => ?_
  rw [run_lenR (ga hm)]
  simp [sz, Pat.its]
theorem lp7 (k n m : Nat) (st : S) (p : Pat Str) (hp : p.deep ≤ 6) (hi : p.items.length ≤ 8) (ha : PAB p) (hm : st[m]? = some (.lst (p.its id))) (o0 o2 o5 o7 o8 o9 o10 o11 o12 o13 o14 o15 o16 o17 o18 o19 o20 : Option D) : Rn (lw3_7 L0 (tb (k + 25)) [o0, some (.ref n), o2, some (p.toD id), some (.ref m), o5, some (mvD (p.num 0)), o7, o8, o9, o10, o11, o12, o13, o14, o15, o16, o17, o18, o19, o20]) st fun q s => q = ([o0, some (.ref n), o2, some (p.toD id), some (.ref m), o5, some (mvD (p.num 0)), o7, o8, o9, o10, o11, o12, o13, o14, o15, o16, o17, o18, o19, o20], .nx) ∧ ∃ ex, s = st ++ ex := by
  obtain ⟨z0, z1, z2, z3⟩ := num_len8 hi hp
  have hpl : pl (k + 24) (.tup (p.its id)) = true := by
    unfold pl Pat.its
    rw [List.length_map, Bool.and_eq_true, decide_eq_true_eq, List.all_eq_true]
    refine ⟨by omega, fun x hx => ?_⟩
    obtain ⟨i, _, rfl⟩ := List.mem_map.mp hx
    rfl
  simp [lw3_7]
  have A := places_of id p (k + 25) (by omega) (by omega)
  refine A.run fun ex => ?_
  rw [run_tupR (ga hm)]
  have B := is_ok (k + 24) (.tup (p.its id)) hpl (rp_ab p.items (fun x hx => ha x hx) hi)
  refine B.run fun ex2 => ?_
  simp [sameO]
  have C := moves_of_ok id p (k + 24) (by omega) hi (by omega)
  refine C.run fun ex3 => ?_
  rw [run_ner (pu_mv _)]
  simp
  have E := plain_ok (k + 25) (mvD (p.num 0)) (pl_mv (k + 21) (p.num 0) z0 (Nat.le_trans (uniqI_len _) (by omega)) (Nat.le_trans (uniqI_len _) (by omega)) (fun i => Nat.le_trans (uniqI_len _) (by have := z3 i; omega)))
  refine E.run fun ex4 => ?_
  simp
end K35


namespace K35
open PySem Mx
open L2 (Key)
@[simp] theorem run_listT {ds : List D} {st : S} {Q : D → S → Prop} : Rn (on1 listD [.tup ds]) st Q = Q (.ref st.length) (st ++ [.lst ds]) := rfl
theorem run_neLL {st : S} {Q : D → S → Prop} {n m : Nat} {l : List Int} (h : st[n]? = some (.lst (l.map .int))) (h2 : st[m]? = some (.lst (l.map .int))) : Rn (neO (.ref n) (.ref m)) st Q = Q (.bl false) st := by
  have e : ∀ {n : Nat}, st[n]? = some (.lst (l.map .int)) → toPy st 64 (.ref n) = some (.list (l.map PyData.int)) := fun {n} h => by
    unfold toPy
    rw [h]
    show (match mapO (toPy st 63) (l.map .int) with | some ps => some (PyData.list ps) | none => none) = _
    rw [toPy_ints l 62]
  rw [run_neO, e h, e h2]
  show Q (.bl (!PyData.eqv (.list (l.map PyData.int)) (.list (l.map PyData.int)))) st = _
  rw [PyData.eqv, eqvAll_refl' fun p hp => ?_]
  · rfl
  · obtain ⟨i, _, rfl⟩ := List.mem_map.mp hp
    rw [PyData.eqv]
    simp
theorem lp8 (k n m : Nat) (st : S) (p : Pat Str) (hp : p.deep ≤ 6) (hi : p.items.length ≤ 8) (o0 o2 o5 o8 o9 o10 o11 o12 o13 o14 o15 o16 o17 o18 o19 o20 : Option D) : Rn (lw3_8 L0 (tb (k + 25)) [o0, some (.ref n), o2, some (p.toD id), some (.ref m), o5, some (mvD (p.num 0)), some (.int p.items.length), o8, o9, o10, o11, o12, o13, o14, o15, o16, o17, o18, o19, o20]) st fun q s => q = ([o0, some (.ref n), o2, some (p.toD id), some (.ref m), o5, some (mvD (p.num 0)), some (.int p.items.length), o8, o9, o10, o11, o12, o13, o14, o15, o16, o17, o18, o19, o20], .nx) ∧ ∃ ex, s = st ++ ex := by
  obtain ⟨z0, z1, z2, z3⟩ := num_len8 hi hp
  have zi := Pat.num_len p 0
  simp [lw3_8, mvD, sz, -run_lc]
  rw [run_lc]
  simp [sz, -run_lc]
  rw [run_addR (xs := [tI (uniqI (p.num 0).fst), tI (uniqI (p.num 0).lst)]) (ys := (p.num 0).items.map fun i => tI (uniqI ((p.num 0).fol i))) (by simp) (by simp)]
  refine ⟨by simp; exact sz (by omega), ?_⟩
  rw [run_live gn]
  simp [-run_lc, wipeE]
  refine run_lapC (ds := [tI (uniqI (p.num 0).fst), tI (uniqI (p.num 0).lst)] ++ ((p.num 0).items.map fun i => tI (uniqI ((p.num 0).fol i)))) (fun i acc s => acc = [] ∧ ∃ ex, s = st ++ [.lst [tI (uniqI (p.num 0).fst), tI (uniqI (p.num 0).lst)], .lst ((p.num 0).items.map fun i => tI (uniqI ((p.num 0).fol i))), .lst ([tI (uniqI (p.num 0).fst), tI (uniqI (p.num 0).lst)] ++ ((p.num 0).items.map fun i => tI (uniqI ((p.num 0).fol i))))] ++ ex) (fun i acc s ⟨_, ex, e⟩ => live_at (by rw [e]; exact ga (by simp))) ?_ ?_ _ _ _ _ ?_ ?_ ?_
  · rintro i d acc s hd ⟨rfl, ex, rfl⟩
    obtain ⟨l, hl, rfl⟩ : ∃ l : List Int, l.length < 64 ∧ tI (uniqI l) = d := by
      have := List.mem_of_getElem? hd
      rw [List.mem_append] at this
      rcases this with h | h
      · simp at h
        rcases h with rfl | rfl
        · exact ⟨_, by omega, rfl⟩
        · exact ⟨_, by omega, rfl⟩
      · obtain ⟨j, _, rfl⟩ := List.mem_map.mp h
        exact ⟨_, z3 j, rfl⟩
    have hu := uniqI_len l
    simp [tI]
    refine ⟨by omega, ?_⟩
    rw [uniqI_twice]
    rw [run_neLL (l := uniqI l) (by simp) (by simp)]
    simp
  · rintro acc s ⟨rfl, ex, rfl⟩
    simp
    rw [run_neL (l := []) (by simp) (by rw [Nat.add_assoc, List.getElem?_append_right (by omega), Nat.add_sub_cancel_left]; simp)]
    simp [tI]
    omega
  · exact lt0 (by simp; omega)
  · exact Nat.zero_le _
  · exact ⟨rfl, [], by simp⟩
end K35


namespace K35
open PySem Mx
open L2 (Key)
@[simp] theorem run_minI {a b : Int} {st : S} {Q : D → S → Prop} : Rn (on2 minD [.int a, .int b]) st Q = Q (.int (if b < a then b else a)) st := rfl
@[simp] theorem run_negI {a : Int} {st : S} {Q : D → S → Prop} : Rn (negD (.int a)) st Q = Q (.int (-a)) st := rfl
theorem run_bAddT {a b : List D} {st : S} {Q : D → S → Prop} : Rn (binD .Add (.tup a) (.tup b)) st Q = (a.length + b.length ≤ sizeLine ∧ Q (.tup (a ++ b)) st) := run_addT
/-- rows of places -/
def Rows (m lim : Nat) (rs : List (List Int)) : Prop := ∀ row ∈ rs, row.length ≤ lim ∧ ∀ j ∈ row, 0 ≤ j ∧ j < m
theorem cut_mem {xs : List D} {lo hi : Option Int} {x : D} (h : x ∈ cutD xs lo hi) : x ∈ xs := List.mem_of_mem_drop (List.mem_of_mem_take h)
theorem cut_len {xs : List D} {lo hi : Option Int} : (cutD xs lo hi).length ≤ xs.length := by
  unfold cutD
  rw [List.length_take, List.length_drop]
  omega
theorem row_of {rs : List (List Int)} {lo hi : Option Int} {i : Nat} {d : D} (h : (cutD (rs.map tI) lo hi)[i]? = some d) : ∃ row ∈ rs, tI row = d := by
  obtain ⟨row, h1, h2⟩ := List.mem_map.mp (cut_mem (List.mem_of_getElem? h))
  exact ⟨row, h1, h2⟩
theorem lp9 (k n : Nat) (st : S) (p : Pat Str) (hp : p.deep ≤ 6) (hi : p.items.length ≤ 8) (o0 o2 o4 o5 o6 o7 o8 o9 o10 o11 o12 o13 o14 o15 o16 o17 o18 o19 o20 : Option D) (Q : Es × Fl → S → Prop) (hQ : ∀ r ex, st.length ≤ r → (st ++ ex)[r]? = some (.lst (([[]] : List (List Int)).map tI)) → Q ([o0, some (.ref n), o2, some (p.toD id), o4, o5, o6, o7, some ((p.num 0).toD sI), some (.ref r), o10, o11, o12, o13, o14, o15, o16, o17, o18, o19, o20], .nx) (st ++ ex)) : Rn (lw3_9 L0 (tb (k + 25)) [o0, some (.ref n), o2, some (p.toD id), o4, o5, o6, o7, o8, o9, o10, o11, o12, o13, o14, o15, o16, o17, o18, o19, o20]) st Q := by
  simp [lw3_9, sz]
  have A := numbered_ok id p (k + 25) 0 (by omega) (by decide) (by omega)
  refine A.run fun ex => ?_
  rw [List.append_assoc]
  refine hQ _ _ (by simp) ?_
  rw [← List.append_assoc, gn]
  rfl
theorem lp10_2 (m lim : Nat) (rs : List (List Int)) (hr : Rows m lim rs) (hl : rs.length ≤ 36) (hlim : lim ≤ 10) (hm : m ≤ 8) (g : Fn → List D → M D) (r t : Nat) (st : S) (h : st[r]? = some (.lst (rs.map tI))) (ht : st[t]? = some (.lst [])) (o0 o1 o2 o3 o4 o5 o6 o8 o10 o12 o13 o14 o15 o16 o17 o18 o19 o20 : Option D)
    (Q : Es × Fl → S → Prop) (hQ : ∀ t2 o12' ex ls, (st ++ ex)[t2]? = some (.lst (ls.map tI)) → ls.length ≤ 5 * rs.length → Rows m (lim + 1) ls → Q ([o0, o1, o2, o3, o4, o5, o6, some (.int m), o8, some (.ref r), o10, some (.ref t2), o12', o13, o14, o15, o16, o17, o18, o19, o20], .nx) (st ++ ex)) : Rn (lw3_10_2 L0 g [o0, o1, o2, o3, o4, o5, o6, some (.int m), o8, some (.ref r), o10, some (.ref t), o12, o13, o14, o15, o16, o17, o18, o19, o20]) st Q := by
  have hc := cut_len (xs := rs.map tI) (lo := some (-60)) (hi := none)
  rw [List.length_map] at hc
  unfold lw3_10_2
  simp only [run_pure, run_bind, run_fail, run_guard, run_ite, run_var, run_c, run_op, run_un, run_bOf, run_and, run_or, run_not, run_tst, run_andT, run_orT, run_notT, run_if, run_nilA, run_consA, run_tup, run_new, run_lst, run_call, run_callK, run_lm, run_sli, run_ptno, run_ptat, run_nx, run_ct, run_ret, run_drop, run_seq, run_asg, run_name, run_nilG, run_consG, run_tupG, run_par, run_aug, run_fn, run_forS, run_over, run_blM, run_notM, run_eqI, run_neI, run_eqB, run_neB, run_ltI, run_gtI, run_leI, run_geI, run_ofO, at0, at1, at2, run_ix0, run_ix1, run_ix2, run_sl1, run_seqT, run_lenT, run_addT, run_iaddT, run_addI, run_subI, run_rng, run_yes, run_sub, run_mulI, run_modI, run_fdivI, run_powI, run_intI, run_absI, run_seqR, run_listT, run_minI, run_negI, run_bAddT, List.getElem?_cons_zero, List.getElem?_cons_succ, List.set_cons_zero, List.set_cons_succ, if_true, if_false, Bool.false_eq_true, reduceIte, List.length_cons, List.length_nil, Bool.not_true, Bool.not_false]
  rw [run_slR h, run_live gn]
  refine run_for (ds := cutD (rs.map tI) (some (-60)) none) (fun i es s => ∃ t2 o12' ex ls, es = [o0, o1, o2, o3, o4, o5, o6, some (.int m), o8, some (.ref r), o10, some (.ref t2), o12', o13, o14, o15, o16, o17, o18, o19, o20] ∧ s = st ++ ([.lst (cutD (rs.map tI) (some (-60)) none)] ++ ex) ∧ s[t2]? = some (.lst (ls.map tI)) ∧ ls.length ≤ 5 * i ∧ Rows m (lim + 1) ls) (fun i es s ⟨t2, o12', ex, ls, e1, e2, e3⟩ => live_at (by rw [e2]; simp)) ?_ ?_ _ _ _ _ ?_ ?_ ?_
  · rintro i d es s hd ⟨t2, o12', ex, ls, rfl, rfl, e3, e4, e5⟩
    obtain ⟨row, hrow, rfl⟩ := row_of hd
    obtain ⟨hw1, hw2⟩ := hr row hrow
    simp only [run_pure, run_bind, run_fail, run_guard, run_ite, run_var, run_c, run_op, run_un, run_bOf, run_and, run_or, run_not, run_tst, run_andT, run_orT, run_notT, run_if, run_nilA, run_consA, run_tup, run_new, run_lst, run_call, run_callK, run_lm, run_sli, run_ptno, run_ptat, run_nx, run_ct, run_ret, run_drop, run_seq, run_asg, run_name, run_nilG, run_consG, run_tupG, run_par, run_aug, run_fn, run_forS, run_over, run_blM, run_notM, run_eqI, run_neI, run_eqB, run_neB, run_ltI, run_gtI, run_leI, run_geI, run_ofO, at0, at1, at2, run_ix0, run_ix1, run_ix2, run_sl1, run_seqT, run_lenT, run_addT, run_iaddT, run_addI, run_subI, run_rng, run_yes, run_sub, run_mulI, run_modI, run_fdivI, run_powI, run_intI, run_absI, run_seqR, run_listT, run_minI, run_negI, run_bAddT, List.getElem?_cons_zero, List.getElem?_cons_succ, List.set_cons_zero, List.set_cons_succ, if_true, if_false, Bool.false_eq_true, reduceIte, List.length_cons, List.length_nil, Bool.not_true, Bool.not_false]
    rw [run_lc]
    simp only [run_pure, run_bind, run_fail, run_guard, run_ite, run_var, run_c, run_op, run_un, run_bOf, run_and, run_or, run_not, run_tst, run_andT, run_orT, run_notT, run_if, run_nilA, run_consA, run_tup, run_new, run_lst, run_call, run_callK, run_lm, run_sli, run_ptno, run_ptat, run_nx, run_ct, run_ret, run_drop, run_seq, run_asg, run_name, run_nilG, run_consG, run_tupG, run_par, run_aug, run_fn, run_forS, run_over, run_blM, run_notM, run_eqI, run_neI, run_eqB, run_neB, run_ltI, run_gtI, run_leI, run_geI, run_ofO, at0, at1, at2, run_ix0, run_ix1, run_ix2, run_sl1, run_seqT, run_lenT, run_addT, run_iaddT, run_addI, run_subI, run_rng, run_yes, run_sub, run_mulI, run_modI, run_fdivI, run_powI, run_intI, run_absI, run_seqR, run_listT, run_minI, run_negI, run_bAddT, List.getElem?_cons_zero, List.getElem?_cons_succ, List.set_cons_zero, List.set_cons_succ, if_true, if_false, Bool.false_eq_true, reduceIte, List.length_cons, List.length_nil, Bool.not_true, Bool.not_false, wipeE]
    have w1 : (if 5 < (m : Int) then 5 else (m : Int)).toNat ≤ m := by split <;> omega
    have w2 : (if 5 < (m : Int) then 5 else (m : Int)).toNat ≤ 5 := by split <;> omega
    refine ⟨by split; · exact small (j := 5) (by decide)
               · exact small (by omega), ?_⟩
    generalize (if 5 < (m : Int) then 5 else (m : Int)).toNat = w at w1 w2 ⊢
    refine run_lapC (ds := (Pat.run 0 w).map .int) (fun i acc s => ∃ ls, acc = ls.map tI ∧ ls.length = i ∧ Rows m (lim + 1) ls ∧ s = st ++ ([.lst (cutD (rs.map tI) (some (-60)) none)] ++ ex)) (fun i acc s _ => rng_at) ?_ ?_ _ _ _ _ ?_ ?_ ?_
    · rintro i2 d acc s hd2 ⟨ls2, rfl, f1, f2, rfl⟩
      obtain ⟨j, hj, rfl⟩ := memR (i := 0) hd2
      have hj2 := Pat.mem_run.mp (List.mem_of_getElem? hj)
      have hi2 : i2 < w := by
        have := (List.getElem?_eq_some_iff.mp hj).1
        rwa [Pat.run_len] at this
      simp only [run_pure, run_bind, run_fail, run_guard, run_ite, run_var, run_c, run_op, run_un, run_bOf, run_and, run_or, run_not, run_tst, run_andT, run_orT, run_notT, run_if, run_nilA, run_consA, run_tup, run_new, run_lst, run_call, run_callK, run_lm, run_sli, run_ptno, run_ptat, run_nx, run_ct, run_ret, run_drop, run_seq, run_asg, run_name, run_nilG, run_consG, run_tupG, run_par, run_aug, run_fn, run_forS, run_over, run_blM, run_notM, run_eqI, run_neI, run_eqB, run_neB, run_ltI, run_gtI, run_leI, run_geI, run_ofO, at0, at1, at2, run_ix0, run_ix1, run_ix2, run_sl1, run_seqT, run_lenT, run_addT, run_iaddT, run_addI, run_subI, run_rng, run_yes, run_sub, run_mulI, run_modI, run_fdivI, run_powI, run_intI, run_absI, run_seqR, run_listT, run_minI, run_negI, run_bAddT, List.getElem?_cons_zero, List.getElem?_cons_succ, List.set_cons_zero, List.set_cons_succ, if_true, if_false, Bool.false_eq_true, reduceIte, List.length_cons, List.length_nil, Bool.not_true, Bool.not_false]
      rw [show tI row = .tup (row.map .int) from rfl]
      simp only [run_pure, run_bind, run_fail, run_guard, run_ite, run_var, run_c, run_op, run_un, run_bOf, run_and, run_or, run_not, run_tst, run_andT, run_orT, run_notT, run_if, run_nilA, run_consA, run_tup, run_new, run_lst, run_call, run_callK, run_lm, run_sli, run_ptno, run_ptat, run_nx, run_ct, run_ret, run_drop, run_seq, run_asg, run_name, run_nilG, run_consG, run_tupG, run_par, run_aug, run_fn, run_forS, run_over, run_blM, run_notM, run_eqI, run_neI, run_eqB, run_neB, run_ltI, run_gtI, run_leI, run_geI, run_ofO, at0, at1, at2, run_ix0, run_ix1, run_ix2, run_sl1, run_seqT, run_lenT, run_addT, run_iaddT, run_addI, run_subI, run_rng, run_yes, run_sub, run_mulI, run_modI, run_fdivI, run_powI, run_intI, run_absI, run_seqR, run_listT, run_minI, run_negI, run_bAddT, List.getElem?_cons_zero, List.getElem?_cons_succ, List.set_cons_zero, List.set_cons_succ, if_true, if_false, Bool.false_eq_true, reduceIte, List.length_cons, List.length_nil, Bool.not_true, Bool.not_false]
      refine ⟨sz (by decide), by rw [List.length_map]; exact sz (by omega), by rw [List.length_map]; exact sz3 (by omega), ls2 ++ [row ++ [j]], ?_, by simp [f1], ?_, trivial⟩
      · simp [tI]
      · intro row2 hrow2
        rcases List.mem_append.mp hrow2 with h2 | h2
        · exact f2 row2 h2
        · rw [List.mem_singleton.mp h2]
          refine ⟨by simp; omega, fun z hz => ?_⟩
          rcases List.mem_append.mp hz with h3 | h3
          · exact hw2 z h3
          · rw [List.mem_singleton.mp h3]; omega
    · rintro acc s ⟨ls2, rfl, f1, f2, rfl⟩
      rw [List.length_map, Pat.run_len] at f1
      rw [run_addR (xs := ls.map tI) (ys := ls2.map tI) (by have := ga (ex := [.lst (ls2.map tI)]) e3; simpa using this) gn]
      have hi3 : i < (cutD (rs.map tI) (some (-60)) none).length := (List.getElem?_eq_some_iff.mp hd).1
      refine ⟨by rw [List.length_map, List.length_map]; exact sz (by omega), _, _, ex ++ [.lst (ls2.map tI), .lst (ls.map tI ++ ls2.map tI)], ls ++ ls2, rfl, by simp, ?_, by rw [List.length_append]; omega, ?_⟩
      · rw [List.map_append]; exact gn
      · intro row2 hrow2
        rcases List.mem_append.mp hrow2 with h2 | h2
        · exact e5 row2 h2
        · exact f2 row2 h2
    · exact lt0 (by rw [List.length_map, Pat.run_len]; omega)
    · exact Nat.zero_le _
    · exact ⟨[], rfl, rfl, (fun row hrow => by cases hrow), rfl⟩
  · rintro es s ⟨t2, o12', ex, ls, rfl, rfl, e3, e4, e5⟩
    exact hQ t2 o12' _ ls e3 (by omega) e5
  · exact lt0 (by omega)
  · exact Nat.zero_le _
  · exact ⟨t, o12, [], [], rfl, by simp, by simpa using ga ht, by simp, fun row hrow => by cases hrow⟩
theorem lp10 (m : Nat) (hm : m ≤ 8) (g : Fn → List D → M D) (r : Nat) (st : S) (h : st[r]? = some (.lst (([[]] : List (List Int)).map tI))) (o0 o1 o2 o3 o4 o5 o6 o8 o10 o11 o12 o13 o14 o15 o16 o17 o18 o19 o20 : Option D)
    (Q : Es × Fl → S → Prop) (hQ : ∀ r2 o10' o11' o12' ex rs, (r2 = r ∨ st.length ≤ r2) → (st ++ ex)[r2]? = some (.lst (rs.map tI)) → rs.length ≤ 216 → Rows m 3 rs → Q ([o0, o1, o2, o3, o4, o5, o6, some (.int m), o8, some (.ref r2), o10', o11', o12', o13, o14, o15, o16, o17, o18, o19, o20], .nx) (st ++ ex)) : Rn (lw3_10 L0 g [o0, o1, o2, o3, o4, o5, o6, some (.int m), o8, some (.ref r), o10, o11, o12, o13, o14, o15, o16, o17, o18, o19, o20]) st Q := by
  unfold lw3_10
  simp only [run_pure, run_bind, run_fail, run_guard, run_ite, run_var, run_c, run_op, run_un, run_bOf, run_and, run_or, run_not, run_tst, run_andT, run_orT, run_notT, run_if, run_nilA, run_consA, run_tup, run_new, run_lst, run_call, run_callK, run_lm, run_sli, run_ptno, run_ptat, run_nx, run_ct, run_ret, run_drop, run_seq, run_asg, run_name, run_nilG, run_consG, run_tupG, run_par, run_aug, run_fn, run_forS, run_over, run_blM, run_notM, run_eqI, run_neI, run_eqB, run_neB, run_ltI, run_gtI, run_leI, run_geI, run_ofO, at0, at1, at2, run_ix0, run_ix1, run_ix2, run_sl1, run_seqT, run_lenT, run_addT, run_iaddT, run_addI, run_subI, run_rng, run_yes, run_sub, run_mulI, run_modI, run_fdivI, run_powI, run_intI, run_absI, run_seqR, run_listT, run_minI, run_negI, run_bAddT, List.getElem?_cons_zero, List.getElem?_cons_succ, List.set_cons_zero, List.set_cons_succ, if_true, if_false, Bool.false_eq_true, reduceIte, List.length_cons, List.length_nil, Bool.not_true, Bool.not_false]
  refine ⟨small (j := 3) (by decide), ?_⟩
  refine run_for (ds := (Pat.run 0 3).map .int) (fun i es s => ∃ r2 o10' o11' o12' ex rs, es = [o0, o1, o2, o3, o4, o5, o6, some (.int m), o8, some (.ref r2), o10', o11', o12', o13, o14, o15, o16, o17, o18, o19, o20] ∧ s = st ++ ex ∧ (r2 = r ∨ st.length ≤ r2) ∧ s[r2]? = some (.lst (rs.map tI)) ∧ rs.length ≤ 6 ^ i ∧ Rows m i rs) (fun i es s _ => rng_at) ?_ ?_ _ _ _ _ ?_ ?_ ?_
  · rintro i d es s hd ⟨r2, o10', o11', o12', ex, rs, rfl, rfl, e0, e1, e2, e3⟩
    obtain ⟨j, hj, rfl⟩ := memR (i := 0) hd
    have hi : i < 3 := by
      have := (List.getElem?_eq_some_iff.mp hj).1
      rwa [Pat.run_len] at this
    have h36 : 6 ^ i ≤ 36 := Nat.le_trans (Nat.pow_le_pow_right (by decide) (by omega : i ≤ 2)) (by decide)
    unfold lw3_10b lw3_10_1 lw3_10_3
    simp only [run_pure, run_bind, run_fail, run_guard, run_ite, run_var, run_c, run_op, run_un, run_bOf, run_and, run_or, run_not, run_tst, run_andT, run_orT, run_notT, run_if, run_nilA, run_consA, run_tup, run_new, run_lst, run_call, run_callK, run_lm, run_sli, run_ptno, run_ptat, run_nx, run_ct, run_ret, run_drop, run_seq, run_asg, run_name, run_nilG, run_consG, run_tupG, run_par, run_aug, run_fn, run_forS, run_over, run_blM, run_notM, run_eqI, run_neI, run_eqB, run_neB, run_ltI, run_gtI, run_leI, run_geI, run_ofO, at0, at1, at2, run_ix0, run_ix1, run_ix2, run_sl1, run_seqT, run_lenT, run_addT, run_iaddT, run_addI, run_subI, run_rng, run_yes, run_sub, run_mulI, run_modI, run_fdivI, run_powI, run_intI, run_absI, run_seqR, run_listT, run_minI, run_negI, run_bAddT, List.getElem?_cons_zero, List.getElem?_cons_succ, List.set_cons_zero, List.set_cons_succ, if_true, if_false, Bool.false_eq_true, reduceIte, List.length_cons, List.length_nil, Bool.not_true, Bool.not_false]
    refine ⟨sz (by decide), ?_⟩
    have A := lp10_2 m i rs e3 (by omega) (by omega) hm g r2 (st ++ ex).length (st ++ ex ++ [.lst []]) (ga e1) gn o0 o1 o2 o3 o4 o5 o6 o8 (some (.int j)) o12' o13 o14 o15 o16 o17 o18 o19 o20
    refine A _ fun t2 o12'' ex2 ls f1 f2 f3 => ?_
    simp only [run_pure, run_bind, run_fail, run_guard, run_ite, run_var, run_c, run_op, run_un, run_bOf, run_and, run_or, run_not, run_tst, run_andT, run_orT, run_notT, run_if, run_nilA, run_consA, run_tup, run_new, run_lst, run_call, run_callK, run_lm, run_sli, run_ptno, run_ptat, run_nx, run_ct, run_ret, run_drop, run_seq, run_asg, run_name, run_nilG, run_consG, run_tupG, run_par, run_aug, run_fn, run_forS, run_over, run_blM, run_notM, run_eqI, run_neI, run_eqB, run_neB, run_ltI, run_gtI, run_leI, run_geI, run_ofO, at0, at1, at2, run_ix0, run_ix1, run_ix2, run_sl1, run_seqT, run_lenT, run_addT, run_iaddT, run_addI, run_subI, run_rng, run_yes, run_sub, run_mulI, run_modI, run_fdivI, run_powI, run_intI, run_absI, run_seqR, run_listT, run_minI, run_negI, run_bAddT, List.getElem?_cons_zero, List.getElem?_cons_succ, List.set_cons_zero, List.set_cons_succ, if_true, if_false, Bool.false_eq_true, reduceIte, List.length_cons, List.length_nil, Bool.not_true, Bool.not_false]
    rw [run_addR (xs := rs.map tI) (ys := ls.map tI) (ga (ga e1)) f1]
    refine ⟨by rw [List.length_map, List.length_map]; exact sz (by omega), (st ++ ex ++ [O.lst []] ++ ex2).length, _, _, _, ex ++ ([.lst []] ++ (ex2 ++ [.lst (rs.map tI ++ ls.map tI)])), rs ++ ls, rfl, by simp, .inr (by simp), ?_, ?_, ?_⟩
    · rw [List.map_append]; exact gn
    · rw [List.length_append, Nat.pow_succ]; omega
    · intro row2 hrow2
      rcases List.mem_append.mp hrow2 with h2 | h2
      · exact ⟨by have := (e3 row2 h2).1; omega, (e3 row2 h2).2⟩
      · exact f3 row2 h2
  · rintro es s ⟨r2, o10', o11', o12', ex, rs, rfl, rfl, e0, e1, e2, e3⟩
    exact hQ r2 o10' o11' o12' ex rs e0 e1 (by simpa [Pat.run] using e2) (by simpa [Pat.run] using e3)
  · exact lt0 (by decide)
  · exact Nat.zero_le _
  · refine ⟨r, o10, o11, o12, [], [[]], rfl, by simp, .inl rfl, h, by decide, ?_⟩
    intro row hrow
    rw [List.mem_singleton.mp hrow]
    exact ⟨by decide, fun j hj => by cases hj⟩
end K35


namespace K35
open PySem Mx
open L2 (Key)
theorem Drw.set {n g c T r : Nat} {st : S} {o : O} (h : Drw n g c T st) (h1 : r ≠ n) (h2 : r ≠ g) (h3 : r ≠ c) : Drw n g c T (st.set r o) := by
  obtain ⟨ng, nc, gc, ⟨r, t, r0, t0, tT, hd⟩, ⟨gs, g0, gl, hg⟩, ⟨cs, cl, hc⟩⟩ := h
  refine ⟨ng, nc, gc, ⟨r, t, r0, t0, tT, ?_⟩, ⟨gs, g0, gl, ?_⟩, ⟨cs, cl, ?_⟩⟩
  · rw [List.getElem?_set_ne h1]; exact hd
  · rw [List.getElem?_set_ne h2]; exact hg
  · rw [List.getElem?_set_ne h3]; exact hc
theorem tup_tI (row : List Int) : D.tup (row.map .int) = tI row := rfl
theorem lp11 (k n g c T m : Nat) (hm : m ≤ 8) (st : S) (h : Drw n g c T st) (hT : T + 60 ≤ 1000000) (r : Nat) (rn0 : r ≠ n) (rg : r ≠ g) (rc : r ≠ c) (rs : List (List Int)) (e : st[r]? = some (.lst (rs.map tI))) (hl : rs.length ≤ 216) (hR : Rows m 5 rs) (o0 o2 o3 o4 o5 o6 o8 o10 o11 o12 o13 o14 o15 o16 o17 o18 o19 o20 : Option D)
    (Q : Es × Fl → S → Prop) (hQ : ∀ o13' s rs', Drw n g c (T + 60) s → s[r]? = some (.lst (rs'.map tI)) → rs'.length ≤ 224 → Rows m 5 rs' → Q ([o0, some (.ref n), o2, o3, o4, o5, o6, some (.int m), o8, some (.ref r), o10, o11, o12, o13', o14, o15, o16, o17, o18, o19, o20], .nx) s) : Rn (lw3_11 L0 (tb (k + 25)) [o0, some (.ref n), o2, o3, o4, o5, o6, some (.int m), o8, some (.ref r), o10, o11, o12, o13, o14, o15, o16, o17, o18, o19, o20]) st Q := by
  unfold lw3_11
  simp only [run_pure, run_bind, run_fail, run_guard, run_ite, run_var, run_c, run_op, run_un, run_bOf, run_and, run_or, run_not, run_tst, run_andT, run_orT, run_notT, run_if, run_nilA, run_consA, run_tup, run_new, run_lst, run_call, run_callK, run_lm, run_sli, run_ptno, run_ptat, run_nx, run_ct, run_ret, run_drop, run_seq, run_asg, run_name, run_nilG, run_consG, run_tupG, run_par, run_aug, run_fn, run_forS, run_over, run_blM, run_notM, run_eqI, run_neI, run_eqB, run_neB, run_ltI, run_gtI, run_leI, run_geI, run_ofO, at0, at1, at2, run_ix0, run_ix1, run_ix2, run_sl1, run_seqT, run_lenT, run_addT, run_iaddT, run_addI, run_subI, run_rng, run_yes, run_sub, run_mulI, run_modI, run_fdivI, run_powI, run_intI, run_absI, run_seqR, run_listT, run_minI, run_negI, run_bAddT, List.getElem?_cons_zero, List.getElem?_cons_succ, List.set_cons_zero, List.set_cons_succ, if_true, if_false, Bool.false_eq_true, reduceIte, List.length_cons, List.length_nil, Bool.not_true, Bool.not_false]
  refine ⟨small (j := 8) (by decide), ?_⟩
  refine run_for (ds := (Pat.run 0 8).map .int) (fun i es s => ∃ o13' rs', es = [o0, some (.ref n), o2, o3, o4, o5, o6, some (.int m), o8, some (.ref r), o10, o11, o12, o13', o14, o15, o16, o17, o18, o19, o20] ∧ Drw n g c (T + 6 * i) s ∧ s[r]? = some (.lst (rs'.map tI)) ∧ rs'.length ≤ 216 + i ∧ Rows m 5 rs') (fun i es s _ => rng_at) ?_ ?_ _ _ _ _ ?_ ?_ ?_
  · rintro i d es s hd ⟨o13', rs', rfl, h1, e1, e2, e3⟩
    obtain ⟨j, hj, rfl⟩ := memR (i := 0) hd
    have hi : i < 8 := by
      have := (List.getElem?_eq_some_iff.mp hj).1
      rwa [Pat.run_len] at this
    -- what is put behind
    have put : ∀ (row : List Int) (s2 : S), Drw n g c (T + 6 * (i + 1)) s2 → s2[r]? = some (.lst (rs'.map tI)) → row.length ≤ 5 → (∀ j ∈ row, 0 ≤ j ∧ j < m) → Rn (appendD (.ref r) [tI row]) s2 fun x s => ∃ o13'' rs'', ([o0, some (.ref n), o2, o3, o4, o5, o6, some (.int m), o8, some (.ref r), o10, o11, o12, some (.int j), o14, o15, o16, o17, o18, o19, o20] : Es) = [o0, some (.ref n), o2, o3, o4, o5, o6, some (.int m), o8, some (.ref r), o10, o11, o12, o13'', o14, o15, o16, o17, o18, o19, o20] ∧ Drw n g c (T + 6 * (i + 1)) s ∧ s[r]? = some (.lst (rs''.map tI)) ∧ rs''.length ≤ 216 + (i + 1) ∧ Rows m 5 rs'' := by
      intro row s2 d2 q1 q2 q3
      rw [run_append q1]
      refine ⟨by rw [List.length_map]; exact sz3 (by omega), _, rs' ++ [row], rfl, d2.set rn0 rg rc, ?_, by simp; omega, ?_⟩
      · rw [List.getElem?_set_self (List.getElem?_eq_some_iff.mp q1).1]
        simp
      · intro row2 hrow2
        rcases List.mem_append.mp hrow2 with h2 | h2
        · exact e3 row2 h2
        · rw [List.mem_singleton.mp h2]
          exact ⟨q2, q3⟩
    simp only [run_pure, run_bind, run_fail, run_guard, run_ite, run_var, run_c, run_op, run_un, run_bOf, run_and, run_or, run_not, run_tst, run_andT, run_orT, run_notT, run_if, run_nilA, run_consA, run_tup, run_new, run_lst, run_call, run_callK, run_lm, run_sli, run_ptno, run_ptat, run_nx, run_ct, run_ret, run_drop, run_seq, run_asg, run_name, run_nilG, run_consG, run_tupG, run_par, run_aug, run_fn, run_forS, run_over, run_blM, run_notM, run_eqI, run_neI, run_eqB, run_neB, run_ltI, run_gtI, run_leI, run_geI, run_ofO, at0, at1, at2, run_ix0, run_ix1, run_ix2, run_sl1, run_seqT, run_lenT, run_addT, run_iaddT, run_addI, run_subI, run_rng, run_yes, run_sub, run_mulI, run_modI, run_fdivI, run_powI, run_intI, run_absI, run_seqR, run_listT, run_minI, run_negI, run_bAddT, List.getElem?_cons_zero, List.getElem?_cons_succ, List.set_cons_zero, List.set_cons_succ, if_true, if_false, Bool.false_eq_true, reduceIte, List.length_cons, List.length_nil, Bool.not_true, Bool.not_false]
    rw [run_isLst e1]
    by_cases hm0 : 0 < (m : Int)
    · rw [decide_eq_true hm0]
      simp only [run_pure, run_bind, run_fail, run_guard, run_ite, run_var, run_c, run_op, run_un, run_bOf, run_and, run_or, run_not, run_tst, run_andT, run_orT, run_notT, run_if, run_nilA, run_consA, run_tup, run_new, run_lst, run_call, run_callK, run_lm, run_sli, run_ptno, run_ptat, run_nx, run_ct, run_ret, run_drop, run_seq, run_asg, run_name, run_nilG, run_consG, run_tupG, run_par, run_aug, run_fn, run_forS, run_over, run_blM, run_notM, run_eqI, run_neI, run_eqB, run_neB, run_ltI, run_gtI, run_leI, run_geI, run_ofO, at0, at1, at2, run_ix0, run_ix1, run_ix2, run_sl1, run_seqT, run_lenT, run_addT, run_iaddT, run_addI, run_subI, run_rng, run_yes, run_sub, run_mulI, run_modI, run_fdivI, run_powI, run_intI, run_absI, run_seqR, run_listT, run_minI, run_negI, run_bAddT, List.getElem?_cons_zero, List.getElem?_cons_succ, List.set_cons_zero, List.set_cons_succ, if_true, if_false, Bool.false_eq_true, reduceIte, List.length_cons, List.length_nil, Bool.not_true, Bool.not_false]
      rw [run_lc]
      simp only [run_pure, run_bind, run_fail, run_guard, run_ite, run_var, run_c, run_op, run_un, run_bOf, run_and, run_or, run_not, run_tst, run_andT, run_orT, run_notT, run_if, run_nilA, run_consA, run_tup, run_new, run_lst, run_call, run_callK, run_lm, run_sli, run_ptno, run_ptat, run_nx, run_ct, run_ret, run_drop, run_seq, run_asg, run_name, run_nilG, run_consG, run_tupG, run_par, run_aug, run_fn, run_forS, run_over, run_blM, run_notM, run_eqI, run_neI, run_eqB, run_neB, run_ltI, run_gtI, run_leI, run_geI, run_ofO, at0, at1, at2, run_ix0, run_ix1, run_ix2, run_sl1, run_seqT, run_lenT, run_addT, run_iaddT, run_addI, run_subI, run_rng, run_yes, run_sub, run_mulI, run_modI, run_fdivI, run_powI, run_intI, run_absI, run_seqR, run_listT, run_minI, run_negI, run_bAddT, List.getElem?_cons_zero, List.getElem?_cons_succ, List.set_cons_zero, List.set_cons_succ, if_true, if_false, Bool.false_eq_true, reduceIte, List.length_cons, List.length_nil, Bool.not_true, Bool.not_false, wipeE]
      have A := draw_ok (k + 23) n g c (T + 6 * i) 6 s h1 (by omega) (by decide) (by decide)
      refine A.mono fun d s2 ⟨⟨y, y0, y1, ey⟩, h2, kp⟩ => ?_
      subst ey
      simp only [run_pure, run_bind, run_fail, run_guard, run_ite, run_var, run_c, run_op, run_un, run_bOf, run_and, run_or, run_not, run_tst, run_andT, run_orT, run_notT, run_if, run_nilA, run_consA, run_tup, run_new, run_lst, run_call, run_callK, run_lm, run_sli, run_ptno, run_ptat, run_nx, run_ct, run_ret, run_drop, run_seq, run_asg, run_name, run_nilG, run_consG, run_tupG, run_par, run_aug, run_fn, run_forS, run_over, run_blM, run_notM, run_eqI, run_neI, run_eqB, run_neB, run_ltI, run_gtI, run_leI, run_geI, run_ofO, at0, at1, at2, run_ix0, run_ix1, run_ix2, run_sl1, run_seqT, run_lenT, run_addT, run_iaddT, run_addI, run_subI, run_rng, run_yes, run_sub, run_mulI, run_modI, run_fdivI, run_powI, run_intI, run_absI, run_seqR, run_listT, run_minI, run_negI, run_bAddT, List.getElem?_cons_zero, List.getElem?_cons_succ, List.set_cons_zero, List.set_cons_succ, if_true, if_false, Bool.false_eq_true, reduceIte, List.length_cons, List.length_nil, Bool.not_true, Bool.not_false]
      refine ⟨by have := small (j := y.toNat) (by omega); rwa [show ((y.toNat : Nat) : Int) = y by omega] at this, ?_⟩
      have yw : y.toNat ≤ 5 := by omega
      generalize y.toNat = w at yw ⊢
      refine run_lapC (ds := (Pat.run 0 w).map .int) (fun i2 acc s3 => ∃ row : List Int, acc = row.map D.int ∧ row.length = i2 ∧ (∀ j ∈ row, 0 ≤ j ∧ j < (m : Int)) ∧ Drw n g c (T + 6 * i + 1 + i2) s3 ∧ Kp n g s s3) (fun i acc s _ => rng_at) ?_ ?_ _ _ _ _ ?_ ?_ ?_
      · rintro i2 d acc s3 hd2 ⟨row, rfl, f1, f2, f3, f4⟩
        obtain ⟨j2, hj2, rfl⟩ := memR (i := 0) hd2
        have hi2 : i2 < w := by
          have := (List.getElem?_eq_some_iff.mp hj2).1
          rwa [Pat.run_len] at this
        simp only [run_pure, run_bind, run_fail, run_guard, run_ite, run_var, run_c, run_op, run_un, run_bOf, run_and, run_or, run_not, run_tst, run_andT, run_orT, run_notT, run_if, run_nilA, run_consA, run_tup, run_new, run_lst, run_call, run_callK, run_lm, run_sli, run_ptno, run_ptat, run_nx, run_ct, run_ret, run_drop, run_seq, run_asg, run_name, run_nilG, run_consG, run_tupG, run_par, run_aug, run_fn, run_forS, run_over, run_blM, run_notM, run_eqI, run_neI, run_eqB, run_neB, run_ltI, run_gtI, run_leI, run_geI, run_ofO, at0, at1, at2, run_ix0, run_ix1, run_ix2, run_sl1, run_seqT, run_lenT, run_addT, run_iaddT, run_addI, run_subI, run_rng, run_yes, run_sub, run_mulI, run_modI, run_fdivI, run_powI, run_intI, run_absI, run_seqR, run_listT, run_minI, run_negI, run_bAddT, List.getElem?_cons_zero, List.getElem?_cons_succ, List.set_cons_zero, List.set_cons_succ, if_true, if_false, Bool.false_eq_true, reduceIte, List.length_cons, List.length_nil, Bool.not_true, Bool.not_false]
        have B := draw_ok (k + 23) n g c (T + 6 * i + 1 + i2) m s3 f3 (by omega) hm0 (by omega)
        refine B.mono fun d s4 ⟨⟨z, z0, z1, ez⟩, h4, kp4⟩ => ?_
        subst ez
        refine ⟨by rw [List.length_map]; exact sz3 (by omega), row ++ [z], by simp, by simp [f1], fun q hq => ?_, h4, f4.trans kp4⟩
        rcases List.mem_append.mp hq with hq | hq
        · exact f2 q hq
        · rw [List.mem_singleton.mp hq]; exact ⟨z0, z1⟩
      · rintro acc s3 ⟨row, rfl, f1, f2, f3, f4⟩
        rw [List.length_map, Pat.run_len] at f1 f3
        rw [run_tupN, tup_tI]
        exact put row _ ((f3.up (by omega)).app _) (ga (f4.2 _ _ rn0 rg e1)) (by omega) f2
      · exact lt0 (by rw [List.length_map, Pat.run_len]; omega)
      · exact Nat.zero_le _
      · exact ⟨[], rfl, rfl, (fun j hj => by cases hj), h2, kp⟩
    · rw [decide_eq_false hm0]
      simp only [run_pure, run_bind, run_fail, run_guard, run_ite, run_var, run_c, run_op, run_un, run_bOf, run_and, run_or, run_not, run_tst, run_andT, run_orT, run_notT, run_if, run_nilA, run_consA, run_tup, run_new, run_lst, run_call, run_callK, run_lm, run_sli, run_ptno, run_ptat, run_nx, run_ct, run_ret, run_drop, run_seq, run_asg, run_name, run_nilG, run_consG, run_tupG, run_par, run_aug, run_fn, run_forS, run_over, run_blM, run_notM, run_eqI, run_neI, run_eqB, run_neB, run_ltI, run_gtI, run_leI, run_geI, run_ofO, at0, at1, at2, run_ix0, run_ix1, run_ix2, run_sl1, run_seqT, run_lenT, run_addT, run_iaddT, run_addI, run_subI, run_rng, run_yes, run_sub, run_mulI, run_modI, run_fdivI, run_powI, run_intI, run_absI, run_seqR, run_listT, run_minI, run_negI, run_bAddT, List.getElem?_cons_zero, List.getElem?_cons_succ, List.set_cons_zero, List.set_cons_succ, if_true, if_false, Bool.false_eq_true, reduceIte, List.length_cons, List.length_nil, Bool.not_true, Bool.not_false]
      refine ⟨sz (by decide), ?_⟩
      exact put [] s (h1.up (by omega)) e1 (by decide) (fun j hj => by cases hj)
  · rintro es s ⟨o13', rs', rfl, h1, e1, e2, e3⟩
    exact hQ o13' s rs' (h1.up (by simp [Pat.run])) e1 (by simpa [Pat.run] using e2) e3
  · exact lt0 (by decide)
  · exact Nat.zero_le _
  · exact ⟨o13, rs, rfl, h, e, by omega, hR⟩
end K35


namespace K35
open PySem Mx
open L2 (Key)
theorem lin_num {p : Pat Str} (hp : p.deep ≤ 6) (hi : p.items.length ≤ 8) : Lin (p.num 0) where
  nd := Pat.num_nodup p 0
  it := fun a ha => by
    rw [Pat.num_items, Pat.mem_run] at ha
    omega
  dp := by rw [Pat.num_deep]; omega
theorem lp12 (k n : Nat) (p : Pat Str) (hp : p.deep ≤ 6) (hi : p.items.length ≤ 8) (st : S) (r : Nat) (rs : List (List Int)) (e : st[r]? = some (.lst (rs.map tI))) (hl : rs.length ≤ 224) (hR : Rows p.items.length 5 rs) (o0 o2 o4 o5 o7 o10 o11 o12 o13 o14 o15 o16 o17 o18 o19 o20 : Option D)
    (Q : Es × Fl → S → Prop) (hQ : ∀ o12' ex, Q ([o0, some (.ref n), o2, some (p.toD id), o4, o5, some (mvD (p.num 0)), o7, some ((p.num 0).toD sI), some (.ref r), o10, o11, o12', o13, o14, o15, o16, o17, o18, o19, o20], .nx) (st ++ ex)) : Rn (lw3_12 L0 (tb (k + 25)) [o0, some (.ref n), o2, some (p.toD id), o4, o5, some (mvD (p.num 0)), o7, some ((p.num 0).toD sI), some (.ref r), o10, o11, o12, o13, o14, o15, o16, o17, o18, o19, o20]) st Q := by
  have c1 := cut_len (xs := rs.map tI) (lo := none) (hi := some 150)
  have c2 := cut_len (xs := rs.map tI) (lo := some (-8)) (hi := none)
  rw [List.length_map] at c1 c2
  unfold lw3_12
  simp only [run_pure, run_bind, run_fail, run_guard, run_ite, run_var, run_c, run_op, run_un, run_bOf, run_and, run_or, run_not, run_tst, run_andT, run_orT, run_notT, run_if, run_nilA, run_consA, run_tup, run_new, run_lst, run_call, run_callK, run_lm, run_sli, run_ptno, run_ptat, run_nx, run_ct, run_ret, run_drop, run_seq, run_asg, run_name, run_nilG, run_consG, run_tupG, run_par, run_aug, run_fn, run_forS, run_over, run_blM, run_notM, run_eqI, run_neI, run_eqB, run_neB, run_ltI, run_gtI, run_leI, run_geI, run_ofO, at0, at1, at2, run_ix0, run_ix1, run_ix2, run_sl1, run_seqT, run_lenT, run_addT, run_iaddT, run_addI, run_subI, run_rng, run_yes, run_sub, run_mulI, run_modI, run_fdivI, run_powI, run_intI, run_absI, run_seqR, run_listT, run_minI, run_negI, run_bAddT, List.getElem?_cons_zero, List.getElem?_cons_succ, List.set_cons_zero, List.set_cons_succ, if_true, if_false, Bool.false_eq_true, reduceIte, List.length_cons, List.length_nil, Bool.not_true, Bool.not_false]
  rw [run_slR e, run_slR (ga e), run_addR (ga gn) gn]
  refine ⟨sz (by omega), ?_⟩
  rw [run_live gn]
  generalize hds : cutD (rs.map tI) none (some 150) ++ cutD (rs.map tI) (some (-8)) none = ds
  have hlen : ds.length ≤ 448 := by rw [← hds, List.length_append]; omega
  have hmem : ∀ d ∈ ds, ∃ row ∈ rs, tI row = d := by
    intro d hd
    rw [← hds] at hd
    rcases List.mem_append.mp hd with h | h
    · exact List.mem_map.mp (cut_mem h)
    · exact List.mem_map.mp (cut_mem h)
  have h0 : ((st ++ [O.lst (cutD (rs.map tI) none (some 150))] ++ [.lst (cutD (rs.map tI) (some (-8)) none)] ++ [.lst ds]))[(st ++ [O.lst (cutD (rs.map tI) none (some 150))] ++ [O.lst (cutD (rs.map tI) (some (-8)) none)]).length]? = some (.lst ds) := gn
  refine run_for (ds := ds) (fun i es s => ∃ o12' ex, es = [o0, some (.ref n), o2, some (p.toD id), o4, o5, some (mvD (p.num 0)), o7, some ((p.num 0).toD sI), some (.ref r), o10, o11, o12', o13, o14, o15, o16, o17, o18, o19, o20] ∧ s = st ++ ([O.lst (cutD (rs.map tI) none (some 150))] ++ ([.lst (cutD (rs.map tI) (some (-8)) none)] ++ ([.lst ds] ++ ex)))) (fun i es s ⟨o12', ex, e1, e2⟩ => live_at (by rw [e2]; have := ga (ex := ex) h0; simpa using this)) ?_ ?_ _ _ _ _ ?_ ?_ ?_
  · rintro i d es s hd ⟨o12', ex, rfl, rfl⟩
    obtain ⟨row, hrow, rfl⟩ := hmem d (List.mem_of_getElem? hd)
    obtain ⟨hw1, hw2⟩ := hR row hrow
    simp only [run_pure, run_bind, run_fail, run_guard, run_ite, run_var, run_c, run_op, run_un, run_bOf, run_and, run_or, run_not, run_tst, run_andT, run_orT, run_notT, run_if, run_nilA, run_consA, run_tup, run_new, run_lst, run_call, run_callK, run_lm, run_sli, run_ptno, run_ptat, run_nx, run_ct, run_ret, run_drop, run_seq, run_asg, run_name, run_nilG, run_consG, run_tupG, run_par, run_aug, run_fn, run_forS, run_over, run_blM, run_notM, run_eqI, run_neI, run_eqB, run_neB, run_ltI, run_gtI, run_leI, run_geI, run_ofO, at0, at1, at2, run_ix0, run_ix1, run_ix2, run_sl1, run_seqT, run_lenT, run_addT, run_iaddT, run_addI, run_subI, run_rng, run_yes, run_sub, run_mulI, run_modI, run_fdivI, run_powI, run_intI, run_absI, run_seqR, run_listT, run_minI, run_negI, run_bAddT, List.getElem?_cons_zero, List.getElem?_cons_succ, List.set_cons_zero, List.set_cons_succ, if_true, if_false, Bool.false_eq_true, reduceIte, List.length_cons, List.length_nil, Bool.not_true, Bool.not_false]
    have A := goes_ok (p.num 0) p.items.length (k + 24) (Pat.num_items p 0) row hw2 (by omega) (st ++ ([O.lst (cutD (rs.map tI) none (some 150))] ++ ([.lst (cutD (rs.map tI) (some (-8)) none)] ++ ([.lst ds] ++ ex))))
    refine A.mono fun d s2 ⟨e1, ex2, e2⟩ => ?_
    subst e1
    rw [run_lc]
    simp only [run_pure, run_bind, run_fail, run_guard, run_ite, run_var, run_c, run_op, run_un, run_bOf, run_and, run_or, run_not, run_tst, run_andT, run_orT, run_notT, run_if, run_nilA, run_consA, run_tup, run_new, run_lst, run_call, run_callK, run_lm, run_sli, run_ptno, run_ptat, run_nx, run_ct, run_ret, run_drop, run_seq, run_asg, run_name, run_nilG, run_consG, run_tupG, run_par, run_aug, run_fn, run_forS, run_over, run_blM, run_notM, run_eqI, run_neI, run_eqB, run_neB, run_ltI, run_gtI, run_leI, run_geI, run_ofO, at0, at1, at2, run_ix0, run_ix1, run_ix2, run_sl1, run_seqT, run_lenT, run_addT, run_iaddT, run_addI, run_subI, run_rng, run_yes, run_sub, run_mulI, run_modI, run_fdivI, run_powI, run_intI, run_absI, run_seqR, run_listT, run_minI, run_negI, run_bAddT, List.getElem?_cons_zero, List.getElem?_cons_succ, List.set_cons_zero, List.set_cons_succ, if_true, if_false, Bool.false_eq_true, reduceIte, List.length_cons, List.length_nil, Bool.not_true, Bool.not_false, wipeE]
    rw [show tI row = .tup (row.map .int) from rfl]
    simp only [run_pure, run_bind, run_fail, run_guard, run_ite, run_var, run_c, run_op, run_un, run_bOf, run_and, run_or, run_not, run_tst, run_andT, run_orT, run_notT, run_if, run_nilA, run_consA, run_tup, run_new, run_lst, run_call, run_callK, run_lm, run_sli, run_ptno, run_ptat, run_nx, run_ct, run_ret, run_drop, run_seq, run_asg, run_name, run_nilG, run_consG, run_tupG, run_par, run_aug, run_fn, run_forS, run_over, run_blM, run_notM, run_eqI, run_neI, run_eqB, run_neB, run_ltI, run_gtI, run_leI, run_geI, run_ofO, at0, at1, at2, run_ix0, run_ix1, run_ix2, run_sl1, run_seqT, run_lenT, run_addT, run_iaddT, run_addI, run_subI, run_rng, run_yes, run_sub, run_mulI, run_modI, run_fdivI, run_powI, run_intI, run_absI, run_seqR, run_listT, run_minI, run_negI, run_bAddT, List.getElem?_cons_zero, List.getElem?_cons_succ, List.set_cons_zero, List.set_cons_succ, if_true, if_false, Bool.false_eq_true, reduceIte, List.length_cons, List.length_nil, Bool.not_true, Bool.not_false]
    refine run_lapC (ds := row.map .int) (fun i acc s => acc = (row.take i).map (fun j => D.str (sI j)) ∧ s = s2) (fun i acc s _ => rfl) ?_ ?_ _ _ _ _ ?_ ?_ ?_
    · rintro i d acc s hd2 ⟨rfl, rfl⟩
      obtain ⟨j, hj, rfl⟩ := memR (i := 0) hd2
      have hj2 := hw2 j (List.mem_of_getElem? hj)
      simp only [run_pure, run_bind, run_fail, run_guard, run_ite, run_var, run_c, run_op, run_un, run_bOf, run_and, run_or, run_not, run_tst, run_andT, run_orT, run_notT, run_if, run_nilA, run_consA, run_tup, run_new, run_lst, run_call, run_callK, run_lm, run_sli, run_ptno, run_ptat, run_nx, run_ct, run_ret, run_drop, run_seq, run_asg, run_name, run_nilG, run_consG, run_tupG, run_par, run_aug, run_fn, run_forS, run_over, run_blM, run_notM, run_eqI, run_neI, run_eqB, run_neB, run_ltI, run_gtI, run_leI, run_geI, run_ofO, at0, at1, at2, run_ix0, run_ix1, run_ix2, run_sl1, run_seqT, run_lenT, run_addT, run_iaddT, run_addI, run_subI, run_rng, run_yes, run_sub, run_mulI, run_modI, run_fdivI, run_powI, run_intI, run_absI, run_seqR, run_listT, run_minI, run_negI, run_bAddT, List.getElem?_cons_zero, List.getElem?_cons_succ, List.set_cons_zero, List.set_cons_succ, if_true, if_false, Bool.false_eq_true, reduceIte, List.length_cons, List.length_nil, Bool.not_true, Bool.not_false, run_str1]
      refine ⟨log_ok hj2.1 (by omega), by rw [List.length_map, List.length_take]; exact sz3 (by omega), ?_, trivial⟩
      rw [take_get hj, List.map_append]
      rfl
    · rintro acc s ⟨rfl, rfl⟩
      rw [List.length_map, List.take_length]
      have B := takes_ok (lin_num hp hi) (k + 24) s.length (by omega) row (fun j hj => by have := hw2 j hj; omega) (by omega) (s ++ [.lst (row.map fun j => D.str (sI j))]) gn
      refine B.mono fun d s3 ⟨e3, ex3, e4⟩ => ?_
      subst e3 e4 e2
      simp only [run_pure, run_bind, run_fail, run_guard, run_ite, run_var, run_c, run_op, run_un, run_bOf, run_and, run_or, run_not, run_tst, run_andT, run_orT, run_notT, run_if, run_nilA, run_consA, run_tup, run_new, run_lst, run_call, run_callK, run_lm, run_sli, run_ptno, run_ptat, run_nx, run_ct, run_ret, run_drop, run_seq, run_asg, run_name, run_nilG, run_consG, run_tupG, run_par, run_aug, run_fn, run_forS, run_over, run_blM, run_notM, run_eqI, run_neI, run_eqB, run_neB, run_ltI, run_gtI, run_leI, run_geI, run_ofO, at0, at1, at2, run_ix0, run_ix1, run_ix2, run_sl1, run_seqT, run_lenT, run_addT, run_iaddT, run_addI, run_subI, run_rng, run_yes, run_sub, run_mulI, run_modI, run_fdivI, run_powI, run_intI, run_absI, run_seqR, run_listT, run_minI, run_negI, run_bAddT, List.getElem?_cons_zero, List.getElem?_cons_succ, List.set_cons_zero, List.set_cons_succ, if_true, if_false, Bool.false_eq_true, reduceIte, List.length_cons, List.length_nil, Bool.not_true, Bool.not_false, beq_self_eq_true]
      exact ⟨some (.tup (row.map .int)), ex ++ (ex2 ++ ([.lst (row.map fun j => D.str (sI j))] ++ ex3)), rfl, by simp⟩
    · exact lt0 (by rw [List.length_map]; omega)
    · exact Nat.zero_le _
    · exact ⟨rfl, rfl⟩
  · rintro es s ⟨o12', ex, rfl, rfl⟩
    exact hQ o12' _
  · exact lt0 (by omega)
  · exact Nat.zero_le _
  · exact ⟨o12, [], rfl, by simp⟩
end K35


namespace K35
open PySem Mx
open L2 (Key)
def mnN : Nat → Pat Str → Pat Str
  | 0, p => p
  | i + 1, p => .many (mnN i p)
theorem mn_deep (p : Pat Str) : ∀ i, (mnN i p).deep = p.deep + i
  | 0 => rfl
  | i + 1 => by
    show 1 + (mnN i p).deep = _
    rw [mn_deep p i]
    omega
theorem mn_items (p : Pat Str) : ∀ i, (mnN i p).items = p.items
  | 0 => rfl
  | i + 1 => mn_items p i
theorem lp14 (k n : Nat) (p : Pat Str) (hp : p.deep ≤ 6) (st : S) (o0 o2 o4 o5 o6 o7 o8 o9 o10 o11 o12 o13 o15 o16 o17 o18 o19 o20 : Option D)
    (Q : Es × Fl → S → Prop) (hQ : ∀ o13' ex (y : Pat Str), y.deep = 7 → y.items = p.items → Q ([o0, some (.ref n), o2, some (p.toD id), o4, o5, o6, o7, o8, o9, o10, o11, o12, o13', some (y.toD id), o15, o16, o17, o18, o19, o20], .nx) (st ++ ex)) : Rn (lw3_14 L0 (tb (k + 25)) [o0, some (.ref n), o2, some (p.toD id), o4, o5, o6, o7, o8, o9, o10, o11, o12, o13, some (p.toD id), o15, o16, o17, o18, o19, o20]) st Q := by
  unfold lw3_14
  simp only [run_pure, run_bind, run_fail, run_guard, run_ite, run_var, run_c, run_op, run_un, run_bOf, run_and, run_or, run_not, run_tst, run_andT, run_orT, run_notT, run_if, run_nilA, run_consA, run_tup, run_new, run_lst, run_call, run_callK, run_lm, run_sli, run_ptno, run_ptat, run_nx, run_ct, run_ret, run_drop, run_seq, run_asg, run_name, run_nilG, run_consG, run_tupG, run_par, run_aug, run_fn, run_forS, run_over, run_blM, run_notM, run_eqI, run_neI, run_eqB, run_neB, run_ltI, run_gtI, run_leI, run_geI, run_ofO, at0, at1, at2, run_ix0, run_ix1, run_ix2, run_sl1, run_seqT, run_lenT, run_addT, run_iaddT, run_addI, run_subI, run_rng, run_yes, run_sub, run_mulI, run_modI, run_fdivI, run_powI, run_intI, run_absI, run_seqR, run_listT, run_minI, run_negI, run_bAddT, List.getElem?_cons_zero, List.getElem?_cons_succ, List.set_cons_zero, List.set_cons_succ, if_true, if_false, Bool.false_eq_true, reduceIte, List.length_cons, List.length_nil, Bool.not_true, Bool.not_false]
  have A := deep_ok id p (k + 25) (by omega)
  refine A.run fun ex => ?_
  simp only [run_pure, run_bind, run_fail, run_guard, run_ite, run_var, run_c, run_op, run_un, run_bOf, run_and, run_or, run_not, run_tst, run_andT, run_orT, run_notT, run_if, run_nilA, run_consA, run_tup, run_new, run_lst, run_call, run_callK, run_lm, run_sli, run_ptno, run_ptat, run_nx, run_ct, run_ret, run_drop, run_seq, run_asg, run_name, run_nilG, run_consG, run_tupG, run_par, run_aug, run_fn, run_forS, run_over, run_blM, run_notM, run_eqI, run_neI, run_eqB, run_neB, run_ltI, run_gtI, run_leI, run_geI, run_ofO, at0, at1, at2, run_ix0, run_ix1, run_ix2, run_sl1, run_seqT, run_lenT, run_addT, run_iaddT, run_addI, run_subI, run_rng, run_yes, run_sub, run_mulI, run_modI, run_fdivI, run_powI, run_intI, run_absI, run_seqR, run_listT, run_minI, run_negI, run_bAddT, List.getElem?_cons_zero, List.getElem?_cons_succ, List.set_cons_zero, List.set_cons_succ, if_true, if_false, Bool.false_eq_true, reduceIte, List.length_cons, List.length_nil, Bool.not_true, Bool.not_false]
  have e7 : (7 : Int) - (p.deep : Int) = (7 - p.deep : Nat) := by omega
  rw [e7]
  refine ⟨small (by omega), ?_⟩
  have e8 : ((7 - p.deep : Nat) : Int).toNat = 7 - p.deep := by omega
  rw [e8]
  refine run_for (ds := (Pat.run 0 (7 - p.deep)).map .int) (fun i es s => ∃ o13', es = [o0, some (.ref n), o2, some (p.toD id), o4, o5, o6, o7, o8, o9, o10, o11, o12, o13', some ((mnN i p).toD id), o15, o16, o17, o18, o19, o20] ∧ s = st ++ ex) (fun i es s _ => rng_at) ?_ ?_ _ _ _ _ ?_ ?_ ?_
  · rintro i d es s hd ⟨o13', rfl, rfl⟩
    simp only [run_pure, run_bind, run_fail, run_guard, run_ite, run_var, run_c, run_op, run_un, run_bOf, run_and, run_or, run_not, run_tst, run_andT, run_orT, run_notT, run_if, run_nilA, run_consA, run_tup, run_new, run_lst, run_call, run_callK, run_lm, run_sli, run_ptno, run_ptat, run_nx, run_ct, run_ret, run_drop, run_seq, run_asg, run_name, run_nilG, run_consG, run_tupG, run_par, run_aug, run_fn, run_forS, run_over, run_blM, run_notM, run_eqI, run_neI, run_eqB, run_neB, run_ltI, run_gtI, run_leI, run_geI, run_ofO, at0, at1, at2, run_ix0, run_ix1, run_ix2, run_sl1, run_seqT, run_lenT, run_addT, run_iaddT, run_addI, run_subI, run_rng, run_yes, run_sub, run_mulI, run_modI, run_fdivI, run_powI, run_intI, run_absI, run_seqR, run_listT, run_minI, run_negI, run_bAddT, List.getElem?_cons_zero, List.getElem?_cons_succ, List.set_cons_zero, List.set_cons_succ, if_true, if_false, Bool.false_eq_true, reduceIte, List.length_cons, List.length_nil, Bool.not_true, Bool.not_false]
    exact ⟨sz (by decide), some d, rfl, trivial⟩
  · rintro es s ⟨o13', rfl, rfl⟩
    refine hQ o13' ex _ ?_ (mn_items ..)
    rw [mn_deep, List.length_map, Pat.run_len]
    omega
  · exact lt0 (by rw [List.length_map, Pat.run_len]; omega)
  · exact Nat.zero_le _
  · exact ⟨o13, rfl, rfl⟩
theorem run_loop {t : Es → M Bool} {b : Es → M (Es × Fl)} {n : Nat} {es : Es} {st : S} {QS : Es × Fl → S → Prop} : Rn (loopS t b (n + 1) es) st QS = Rn (t es) st fun q s => if q = true then Rn (b es) s fun p s2 => match p.2 with
      | .nx => Rn (loopS t b n p.1) s2 QS
      | .ct => Rn (loopS t b n p.1) s2 QS
      | .bk => QS (p.1, .nx) s2
      | .rt d => QS (p.1, .rt d) s2 else QS (es, .nx) s := by
  have e : loopS t b (n + 1) es = (do
    let q ← t es
    if q then do
      let p ← b es
      match p.2 with
        | .nx => loopS t b n p.1
        | .ct => loopS t b n p.1
        | .bk => pure (p.1, .nx)
        | .rt d => pure (p.1, .rt d)
    else pure (es, .nx)) := by
    rw [loopS]
    try rfl
  rw [e, run_bind]
  congr 1
  funext q s
  cases q with
  | true =>
    show Rn (b es >>= _) s QS = _
    rw [run_bind, if_pos rfl]
    congr 1
    funext p s2
    obtain ⟨e2, f⟩ := p
    cases f <;> rfl
  | false => rfl
theorem lp15 (k n : Nat) (o : Fin 21 → Option D) : ∀ (j f : Nat) (w : Pat Str) (st : S), 9 ≤ w.items.length + j → j < f → w.deep + j ≤ 18 → w.items.length ≤ 100 → PAB w → ∀ (o0 o2 o3 o4 o5 o6 o7 o8 o9 o10 o11 o12 o13 o14 o16 o17 o18 o19 o20 : Option D)
    (Q : Es × Fl → S → Prop) (hQ : ∀ ex (y : Pat Str), PAB y → y.deep ≤ 18 → 9 ≤ y.items.length → y.items.length ≤ 200 → Q ([o0, some (.ref n), o2, o3, o4, o5, o6, o7, o8, o9, o10, o11, o12, o13, o14, some (y.toD id), o16, o17, o18, o19, o20], .nx) (st ++ ex)), Rn (loopS (tstD (opD ltO (callD (on1 lenD) (consA (callD (tb (k + 25) .F_law_items) (consA (varD 15) (nilA))) (nilA))) (cD (.int 9)))) (asgS (tupD (consA (cD (.str "row")) (consA (varD 15) (consA (tupD (consA (cD (.str "item")) (consA (cD (.str "a")) (nilA)))) (nilA))))) (nameG 15)) f [o0, some (.ref n), o2, o3, o4, o5, o6, o7, o8, o9, o10, o11, o12, o13, o14, some (w.toD id), o16, o17, o18, o19, o20]) st Q
  | j, 0, w, st, _, h, _, _, _ => by omega
  | j, f + 1, w, st, h1, h2, h3, h4, ha => by
    intro o0 o2 o3 o4 o5 o6 o7 o8 o9 o10 o11 o12 o13 o14 o16 o17 o18 o19 o20 Q hQ
    rw [run_loop]
    simp only [run_pure, run_bind, run_fail, run_guard, run_ite, run_var, run_c, run_op, run_un, run_bOf, run_and, run_or, run_not, run_tst, run_andT, run_orT, run_notT, run_if, run_nilA, run_consA, run_tup, run_new, run_lst, run_call, run_callK, run_lm, run_sli, run_ptno, run_ptat, run_nx, run_ct, run_ret, run_drop, run_seq, run_asg, run_name, run_nilG, run_consG, run_tupG, run_par, run_aug, run_fn, run_forS, run_over, run_blM, run_notM, run_eqI, run_neI, run_eqB, run_neB, run_ltI, run_gtI, run_leI, run_geI, run_ofO, at0, at1, at2, run_ix0, run_ix1, run_ix2, run_sl1, run_seqT, run_lenT, run_addT, run_iaddT, run_addI, run_subI, run_rng, run_yes, run_sub, run_mulI, run_modI, run_fdivI, run_powI, run_intI, run_absI, run_seqR, run_listT, run_minI, run_negI, run_bAddT, List.getElem?_cons_zero, List.getElem?_cons_succ, List.set_cons_zero, List.set_cons_succ, if_true, if_false, Bool.false_eq_true, reduceIte, List.length_cons, List.length_nil, Bool.not_true, Bool.not_false]
    have wd := deep_pos w
    have A := items_ok id w (k + 25) (by omega) (by omega)
    refine A.run fun m ex hm hg => ?_
    rw [run_lenR hg]
    have el : (w.its id).length = w.items.length := by simp [Pat.its]
    simp only [run_pure, run_bind, run_fail, run_guard, run_ite, run_var, run_c, run_op, run_un, run_bOf, run_and, run_or, run_not, run_tst, run_andT, run_orT, run_notT, run_if, run_nilA, run_consA, run_tup, run_new, run_lst, run_call, run_callK, run_lm, run_sli, run_ptno, run_ptat, run_nx, run_ct, run_ret, run_drop, run_seq, run_asg, run_name, run_nilG, run_consG, run_tupG, run_par, run_aug, run_fn, run_forS, run_over, run_blM, run_notM, run_eqI, run_neI, run_eqB, run_neB, run_ltI, run_gtI, run_leI, run_geI, run_ofO, at0, at1, at2, run_ix0, run_ix1, run_ix2, run_sl1, run_seqT, run_lenT, run_addT, run_iaddT, run_addI, run_subI, run_rng, run_yes, run_sub, run_mulI, run_modI, run_fdivI, run_powI, run_intI, run_absI, run_seqR, run_listT, run_minI, run_negI, run_bAddT, List.getElem?_cons_zero, List.getElem?_cons_succ, List.set_cons_zero, List.set_cons_succ, if_true, if_false, Bool.false_eq_true, reduceIte, List.length_cons, List.length_nil, Bool.not_true, Bool.not_false, el]
    by_cases h9 : (w.items.length : Int) < 9
    · rw [decide_eq_true h9]
      simp only [run_pure, run_bind, run_fail, run_guard, run_ite, run_var, run_c, run_op, run_un, run_bOf, run_and, run_or, run_not, run_tst, run_andT, run_orT, run_notT, run_if, run_nilA, run_consA, run_tup, run_new, run_lst, run_call, run_callK, run_lm, run_sli, run_ptno, run_ptat, run_nx, run_ct, run_ret, run_drop, run_seq, run_asg, run_name, run_nilG, run_consG, run_tupG, run_par, run_aug, run_fn, run_forS, run_over, run_blM, run_notM, run_eqI, run_neI, run_eqB, run_neB, run_ltI, run_gtI, run_leI, run_geI, run_ofO, at0, at1, at2, run_ix0, run_ix1, run_ix2, run_sl1, run_seqT, run_lenT, run_addT, run_iaddT, run_addI, run_subI, run_rng, run_yes, run_sub, run_mulI, run_modI, run_fdivI, run_powI, run_intI, run_absI, run_seqR, run_listT, run_minI, run_negI, run_bAddT, List.getElem?_cons_zero, List.getElem?_cons_succ, List.set_cons_zero, List.set_cons_succ, if_true, if_false, Bool.false_eq_true, reduceIte, List.length_cons, List.length_nil, Bool.not_true, Bool.not_false]
      refine ⟨sz (by decide), sz (by decide), ?_⟩
      have ih := lp15 k n o (j - 1) f (.row w (.item "a")) (st ++ ex) (by simp [Pat.items]; omega) (by omega) (by simp [Pat.deep]; omega) (by simp [Pat.items]; omega) (fun a hh => by
        simp [Pat.items] at hh
        rcases hh with hh | rfl
        · exact ha a hh
        · exact .inl rfl)
      exact ih o0 o2 o3 o4 o5 o6 o7 o8 o9 o10 o11 o12 o13 o14 o16 o17 o18 o19 o20 Q fun ex2 y y1 y2 y3 y4 => by
        rw [List.append_assoc]
        exact hQ (ex ++ ex2) y y1 y2 y3 y4
    · rw [decide_eq_false h9]
      simp only [run_pure, run_bind, run_fail, run_guard, run_ite, run_var, run_c, run_op, run_un, run_bOf, run_and, run_or, run_not, run_tst, run_andT, run_orT, run_notT, run_if, run_nilA, run_consA, run_tup, run_new, run_lst, run_call, run_callK, run_lm, run_sli, run_ptno, run_ptat, run_nx, run_ct, run_ret, run_drop, run_seq, run_asg, run_name, run_nilG, run_consG, run_tupG, run_par, run_aug, run_fn, run_forS, run_over, run_blM, run_notM, run_eqI, run_neI, run_eqB, run_neB, run_ltI, run_gtI, run_leI, run_geI, run_ofO, at0, at1, at2, run_ix0, run_ix1, run_ix2, run_sl1, run_seqT, run_lenT, run_addT, run_iaddT, run_addI, run_subI, run_rng, run_yes, run_sub, run_mulI, run_modI, run_fdivI, run_powI, run_intI, run_absI, run_seqR, run_listT, run_minI, run_negI, run_bAddT, List.getElem?_cons_zero, List.getElem?_cons_succ, List.set_cons_zero, List.set_cons_succ, if_true, if_false, Bool.false_eq_true, reduceIte, List.length_cons, List.length_nil, Bool.not_true, Bool.not_false]
      exact hQ ex w ha (by omega) (by omega) (by omega)
end K35


namespace K35
open PySem Mx
open L2 (Key)
/-- a thing that is no pattern: both say so, from st on -/
structure Bad (st : S) (d : D) : Prop where
  due : ∀ k ex, Rn (tb (k + 1) .F_law_due [d]) (st ++ ex) fun x s => x = .bl false ∧ ∃ ex2, s = st ++ ex ++ ex2
  pat : ∀ k ex m, (st ++ ex)[m]? = some (.lst (NM2.map .str)) → Rn (tb (k + 1) .Fis_pattern_within [d, .ref m, .int 6]) (st ++ ex) fun x s => x = .bl false ∧ ∃ ex2, s = st ++ ex ++ ex2
theorem mapO_some {α β : Type} {f : α → Option β} : ∀ {xs : List α}, (∀ x ∈ xs, (f x).isSome = true) → ∃ ys, mapO f xs = some ys ∧ ys.length = xs.length
  | [], _ => ⟨[], rfl, rfl⟩
  | x :: xs, h => by
    obtain ⟨y, e⟩ := Option.isSome_iff_exists.mp (h x (List.mem_cons_self ..))
    obtain ⟨ys, e2, e3⟩ := mapO_some fun z hz => h z (List.mem_cons_of_mem _ hz)
    exact ⟨y :: ys, by unfold mapO; rw [e, e2], by simp [e3]⟩
theorem tup_nil {x : D} {xs : List D} {st : S} (h : ∀ z ∈ x :: xs, (toPy st 63 z).isSome = true) {Q : D → S → Prop} : Rn (eqO (.tup (x :: xs)) (.tup [])) st Q = Q (.bl false) st := by
  obtain ⟨ys, e, el⟩ := mapO_some h
  have e1 : toPy st 64 (.tup (x :: xs)) = some (.tuple ys) := by unfold toPy; rw [e]
  have e2 : toPy st 64 (.tup []) = some (.tuple []) := rfl
  rw [run_eqO, e1, e2]
  show Q (.bl (PyData.eqv (.tuple ys) (.tuple []))) st = _
  cases ys with
  | nil => cases el
  | cons y ys => rw [PyData.eqv, PyData.eqvAll]
theorem nil_nil {st : S} {Q : D → S → Prop} : Rn (eqO (.tup []) (.tup [])) st Q = Q (.bl true) st := run_eqr (show Pu (.tup []) from rfl)
theorem isS_ref {st : S} {Q : D → S → Prop} {n : Nat} {xs : List D} (h : st[n]? = some (.lst xs)) : Rn (on2 isi1 [.ref n, .ty .str]) st Q = Q (.bl false) st := run_some (by
  have e : tyD st (.ref n) = some .list := by
    show (match st[n]? with | some (.lst _) => some Ty.list | some (.dic _) => some .dict | some (.dit _) => some .dict | some (.dif _) => some .dict | none => none) = _
    rw [h]
  show isi1 (.ref n) (.ty .str) st = _
  unfold isi1
  rw [e]
  rfl)
theorem st_str {st : S} {x : Str} (h : PyData.strOk x = true) : (toPy st 63 (.str x)).isSome = true := by rw [toPy_str h]; rfl
theorem st_pat {st : S} {p : Pat Str} (h : p.deep ≤ 60) (ho : Ok id p) : (toPy st 63 (p.toD id)).isSome = true := by
  obtain ⟨ps, e⟩ := toPy_pat id p 63 (by omega) ho
  rw [toPy_pure e (Nat.le_refl _)]
  rfl
theorem nilD : (List.replicate 0 (none : Option D)) = [] := rfl
theorem bad_nil (st : S) : Bad st (.tup []) where
  due k ex := by
    rw [t_b__law_due]
    simp [b__law_due, isT_tup, nil_nil, sz]
  pat k ex m hm := by
    rw [t_b_is_pattern_within]
    simp [b_is_pattern_within, isT_tup, nil_nil, sz]
theorem bad_non (st : S) : Bad st .non where
  due k ex := by
    rw [t_b__law_due]
    simp [b__law_due, isT_non]
  pat k ex m hm := by
    rw [t_b_is_pattern_within]
    simp [b_is_pattern_within, isT_non]
theorem bad_list {st : S} {n : Nat} {xs : List D} (h : st[n]? = some (.lst xs)) : Bad st (.ref n) where
  due k ex := by
    rw [t_b__law_due]
    simp [b__law_due, isT_ref (ga h)]
  pat k ex m hm := by
    rw [t_b_is_pattern_within]
    simp [b_is_pattern_within, isT_ref (ga h)]
theorem ok_c : PyData.strOk "c" = true := by decide +kernel
theorem ok_some : PyData.strOk "some" = true := by decide +kernel
theorem c_not : decide (("c" : Str) ∈ NM2) = false := by decide +kernel
theorem toPyI {st : S} {i : Int} : (toPy st 63 (.int i)).isSome = true := rfl
theorem bad_c (st : S) : Bad st (.tup [.str "item", .str "c"]) where
  due k ex := by
    have e : ∀ {st : S} {Q : D → S → Prop}, Rn (eqO (.tup [.str "item", .str "c"]) (.tup [])) st Q = Q (.bl false) st := fun {st Q} => tup_nil (by simp [st_str ok_item, st_str ok_c])
    rw [t_b__law_due]
    simp [b__law_due, isT_tup, e, sz, run_disp5, run_ixS gn, l5I]
    rw [in_names (l := ["a", "b"]) (by simpa using endTwo (st ++ ex) (.dic k5) (.lst [.str "a", .str "b"])), show decide (("c" : Str) ∈ (["a", "b"] : List Str)) = false from c_not]
    simp
  pat k ex m hm := by
    have e : ∀ {st : S} {Q : D → S → Prop}, Rn (eqO (.tup [.str "item", .str "c"]) (.tup [])) st Q = Q (.bl false) st := fun {st Q} => tup_nil (by simp [st_str ok_item, st_str ok_c])
    rw [t_b_is_pattern_within]
    simp [b_is_pattern_within, isT_tup, isS_str, e, run_kdNin, run_kdIx, run_kdLook lkI, sz]
    rw [in_names hm, c_not]
    simp
theorem bad_5 (st : S) : Bad st (.tup [.str "item", .int 5]) where
  due k ex := by
    have e : ∀ {st : S} {Q : D → S → Prop}, Rn (eqO (.tup [.str "item", .int 5]) (.tup [])) st Q = Q (.bl false) st := fun {st Q} => tup_nil (by simp [st_str ok_item, toPyI])
    rw [t_b__law_due]
    simp [b__law_due, isT_tup, e, sz, run_disp5, run_ixS gn, l5I]
    rw [run_inFlat (ys := [.str "a", .str "b"]) (by simpa using endTwo (st ++ ex) (.dic k5) (.lst [.str "a", .str "b"])) rfl]
    simp
  pat k ex m hm := by
    have e : ∀ {st : S} {Q : D → S → Prop}, Rn (eqO (.tup [.str "item", .int 5]) (.tup [])) st Q = Q (.bl false) st := fun {st Q} => tup_nil (by simp [st_str ok_item, toPyI])
    rw [t_b_is_pattern_within]
    simp [b_is_pattern_within, isT_tup, isS_str, isS_int, e, run_kdNin, run_kdIx, run_kdLook lkI, sz]
theorem bq_sn : (("some" : Str) == "none") = false := by decide +kernel
theorem bq_si : (("some" : Str) == "item") = false := by decide +kernel
theorem bq_sr : (("some" : Str) == "row") = false := by decide +kernel
theorem bq_se : (("some" : Str) == "either") = false := by decide +kernel
theorem bq_sm : (("some" : Str) == "many") = false := by decide +kernel
theorem bq_ns : (("none" : Str) == "some") = false := by decide +kernel
theorem bq_is : (("item" : Str) == "some") = false := by decide +kernel
theorem bq_rs : (("row" : Str) == "some") = false := by decide +kernel
theorem bq_es : (("either" : Str) == "some") = false := by decide +kernel
theorem bq_ms : (("many" : Str) == "some") = false := by decide +kernel
theorem bad_some (st : S) {p : Pat Str} (h : p.deep ≤ 60) (ho : Ok id p) : Bad st (.tup [.str "some", p.toD id]) where
  due k ex := by
    have e : ∀ {st : S} {Q : D → S → Prop}, Rn (eqO (.tup [.str "some", p.toD id]) (.tup [])) st Q = Q (.bl false) st := fun {st Q} => tup_nil (by simp [st_str ok_some, st_pat h ho])
    rw [t_b__law_due]
    simp [b__law_due, isT_tup, e, sz, bq_sn, bq_si, bq_sr, bq_se, bq_sm, bq_ns, bq_is, bq_rs, bq_es, bq_ms]
  pat k ex m hm := by
    have e : ∀ {st : S} {Q : D → S → Prop}, Rn (eqO (.tup [.str "some", p.toD id]) (.tup [])) st Q = Q (.bl false) st := fun {st Q} => tup_nil (by simp [st_str ok_some, st_pat h ho])
    rw [t_b_is_pattern_within]
    simp [b_is_pattern_within, isT_tup, isS_str, e, run_kdNin, run_kdIx, run_kdLook lkS, sz]
theorem bad_row (st : S) {p : Pat Str} (h : p.deep ≤ 60) (ho : Ok id p) : Bad st (.tup [.str "row", p.toD id]) where
  due k ex := by
    have e : ∀ {st : S} {Q : D → S → Prop}, Rn (eqO (.tup [.str "row", p.toD id]) (.tup [])) st Q = Q (.bl false) st := fun {st Q} => tup_nil (by simp [st_str ok_row, st_pat h ho])
    rw [t_b__law_due]
    simp [b__law_due, isT_tup, e, sz, run_disp5, run_ixS gn, l5R]
  pat k ex m hm := by
    have e : ∀ {st : S} {Q : D → S → Prop}, Rn (eqO (.tup [.str "row", p.toD id]) (.tup [])) st Q = Q (.bl false) st := fun {st Q} => tup_nil (by simp [st_str ok_row, st_pat h ho])
    rw [t_b_is_pattern_within]
    simp [b_is_pattern_within, isT_tup, isS_str, e, run_kdNin, run_kdIx, run_kdLook lkR, sz]
theorem bad_many (st : S) {p : Pat Str} (h : p.deep ≤ 60) (ho : Ok id p) : Bad st (.tup [.str "many", p.toD id, p.toD id]) where
  due k ex := by
    have e : ∀ {st : S} {Q : D → S → Prop}, Rn (eqO (.tup [.str "many", p.toD id, p.toD id]) (.tup [])) st Q = Q (.bl false) st := fun {st Q} => tup_nil (by simp [st_str ok_many, st_pat h ho])
    rw [t_b__law_due]
    simp [b__law_due, isT_tup, e, sz, run_disp5, run_ixS gn, l5M]
  pat k ex m hm := by
    have e : ∀ {st : S} {Q : D → S → Prop}, Rn (eqO (.tup [.str "many", p.toD id, p.toD id]) (.tup [])) st Q = Q (.bl false) st := fun {st Q} => tup_nil (by simp [st_str ok_many, st_pat h ho])
    rw [t_b_is_pattern_within]
    simp [b_is_pattern_within, isT_tup, isS_str, e, run_kdNin, run_kdIx, run_kdLook lkM, sz]
theorem tolst {st : S} {n : Nat} (h : st[n]? = some (.lst [.str "a"])) : toPy st 63 (.ref n) = some (.list [.str "a"]) ∧ toPy st 64 (.ref n) = some (.list [.str "a"]) := by
  have ha : ∀ j, toPy st (j + 1) (.str "a") = some (.str "a") := fun j => toPy_str (by decide +kernel)
  constructor
  · unfold toPy
    rw [h]
    show (match mapO (toPy st 62) [.str "a"] with | some ps => some (PyData.list ps) | none => none) = _
    unfold mapO mapO
    rw [ha 61]
  · unfold toPy
    rw [h]
    show (match mapO (toPy st 63) [.str "a"] with | some ps => some (PyData.list ps) | none => none) = _
    unfold mapO mapO
    rw [ha 62]
theorem run_inDeep {st : S} {Q : D → S → Prop} {n : Nat} {ys : List D} {x : D} {p : PyData} {qs : List PyData} (h : st[n]? = some (.lst ys)) (hx : flatD x = false) (hp : toPy st 64 x = some p) (hq : mapO (toPy st 63) ys = some qs) : Rn (inO x (.ref n)) st Q = Q (.bl (qs.any fun q => PyData.eqv q p)) st := by
  have e : inRef x n st = some (qs.any fun q => PyData.eqv q p, st) := by
    unfold inRef
    rw [h]
    simp only [hx, Bool.false_and]
    show inDeep x ys st = _
    unfold inDeep
    rw [hp, hq]
  unfold inO
  rw [run_blM, run_bind]
  refine (run_some e).trans ?_
  rfl
theorem bad_la {st : S} {n : Nat} (h : st[n]? = some (.lst [.str "a"])) : Bad st (.tup [.str "item", .ref n]) where
  due k ex := by
    have e : ∀ {ex : S} {Q : D → S → Prop}, Rn (eqO (.tup [.str "item", .ref n]) (.tup [])) (st ++ ex) Q = Q (.bl false) (st ++ ex) := fun {ex Q} => tup_nil (by simp [st_str ok_item, (tolst (ga h)).1])
    rw [t_b__law_due]
    simp [b__law_due, isT_tup, e, sz, run_disp5, run_ixS gn, l5I]
    rw [run_inDeep (ys := [.str "a", .str "b"]) (p := .list [.str "a"]) (qs := [.str "a", .str "b"]) (by simpa using endTwo (st ++ ex) (.dic k5) (.lst [.str "a", .str "b"])) rfl (tolst (ga h)).2 (by
      have ha : ∀ st j, toPy st (j + 1) (.str "a") = some (.str "a") := fun st j => toPy_str (by decide +kernel)
      have hb : ∀ st j, toPy st (j + 1) (.str "b") = some (.str "b") := fun st j => toPy_str (by decide +kernel)
      unfold mapO mapO mapO
      rw [ha _ 62, hb _ 62])]
    simp [PyData.eqv]
  pat k ex m hm := by
    have e : ∀ {ex : S} {Q : D → S → Prop}, Rn (eqO (.tup [.str "item", .ref n]) (.tup [])) (st ++ ex) Q = Q (.bl false) (st ++ ex) := fun {ex Q} => tup_nil (by simp [st_str ok_item, (tolst (ga h)).1])
    rw [t_b_is_pattern_within]
    simp [b_is_pattern_within, isT_tup, isS_str, isS_ref (ga h), e, run_kdNin, run_kdIx, run_kdLook lkI, sz]
/-- one part more than its kind has -/
theorem bad_more (st : S) {p : Pat Str} (h : p.deep ≤ 60) (ho : Ok id p) : ∃ xs, p.toD id = .tup xs ∧ Bad st (.tup (xs ++ [.str "none"])) := by
  cases p with
  | none =>
    refine ⟨[.str "none"], rfl, fun k ex => ?_, fun k ex m hm => ?_⟩
    · have e : ∀ {st : S} {Q : D → S → Prop}, Rn (eqO (.tup [.str "none", .str "none"]) (.tup [])) st Q = Q (.bl false) st := fun {st Q} => tup_nil (by simp [st_str ok_none])
      rw [t_b__law_due]
      simp [b__law_due, isT_tup, e, sz, run_disp5, run_ixS gn, l5N]
    · have e : ∀ {st : S} {Q : D → S → Prop}, Rn (eqO (.tup [.str "none", .str "none"]) (.tup [])) st Q = Q (.bl false) st := fun {st Q} => tup_nil (by simp [st_str ok_none])
      rw [t_b_is_pattern_within]
      simp [b_is_pattern_within, isT_tup, isS_str, e, run_kdNin, run_kdIx, run_kdLook lkN, sz]
  | item a =>
    have ha := ho a (List.mem_cons_self ..)
    simp at ha
    refine ⟨[.str "item", .str a], rfl, fun k ex => ?_, fun k ex m hm => ?_⟩
    · have e : ∀ {st : S} {Q : D → S → Prop}, Rn (eqO (.tup [.str "item", .str a, .str "none"]) (.tup [])) st Q = Q (.bl false) st := fun {st Q} => tup_nil (by simp [st_str ok_none, st_str ok_item, st_str ha])
      rw [t_b__law_due]
      simp [b__law_due, isT_tup, e, sz, run_disp5, run_ixS gn, l5I]
    · have e : ∀ {st : S} {Q : D → S → Prop}, Rn (eqO (.tup [.str "item", .str a, .str "none"]) (.tup [])) st Q = Q (.bl false) st := fun {st Q} => tup_nil (by simp [st_str ok_none, st_str ok_item, st_str ha])
      rw [t_b_is_pattern_within]
      simp [b_is_pattern_within, isT_tup, isS_str, e, run_kdNin, run_kdIx, run_kdLook lkI, sz]
  | many p =>
    have hd : (Pat.many p).deep = 1 + p.deep := rfl
    have hp : ∀ {st}, (toPy st 63 (p.toD id)).isSome = true := st_pat (by omega) ho
    refine ⟨[.str "many", p.toD id], rfl, fun k ex => ?_, fun k ex m hm => ?_⟩
    · have e : ∀ {st : S} {Q : D → S → Prop}, Rn (eqO (.tup [.str "many", p.toD id, .str "none"]) (.tup [])) st Q = Q (.bl false) st := fun {st Q} => tup_nil (by simp [st_str ok_none, st_str ok_many, hp])
      rw [t_b__law_due]
      simp [b__law_due, isT_tup, e, sz, run_disp5, run_ixS gn, l5M]
    · have e : ∀ {st : S} {Q : D → S → Prop}, Rn (eqO (.tup [.str "many", p.toD id, .str "none"]) (.tup [])) st Q = Q (.bl false) st := fun {st Q} => tup_nil (by simp [st_str ok_none, st_str ok_many, hp])
      rw [t_b_is_pattern_within]
      simp [b_is_pattern_within, isT_tup, isS_str, e, run_kdNin, run_kdIx, run_kdLook lkM, sz]
  | row p q =>
    have hd : (Pat.row p q).deep = 1 + max p.deep q.deep := rfl
    have hp : ∀ {st}, (toPy st 63 (p.toD id)).isSome = true := st_pat (by omega) (fun a ha => ho a (List.mem_append_left _ ha))
    have hq : ∀ {st}, (toPy st 63 (q.toD id)).isSome = true := st_pat (by omega) (fun a ha => ho a (List.mem_append_right _ ha))
    refine ⟨[.str "row", p.toD id, q.toD id], rfl, fun k ex => ?_, fun k ex m hm => ?_⟩
    · have e : ∀ {st : S} {Q : D → S → Prop}, Rn (eqO (.tup [.str "row", p.toD id, q.toD id, .str "none"]) (.tup [])) st Q = Q (.bl false) st := fun {st Q} => tup_nil (by simp [st_str ok_none, st_str ok_row, hp, hq])
      rw [t_b__law_due]
      simp [b__law_due, isT_tup, e, sz, run_disp5, run_ixS gn, l5R]
    · have e : ∀ {st : S} {Q : D → S → Prop}, Rn (eqO (.tup [.str "row", p.toD id, q.toD id, .str "none"]) (.tup [])) st Q = Q (.bl false) st := fun {st Q} => tup_nil (by simp [st_str ok_none, st_str ok_row, hp, hq])
      rw [t_b_is_pattern_within]
      simp [b_is_pattern_within, isT_tup, isS_str, e, run_kdNin, run_kdIx, run_kdLook lkR, sz]
  | either p q =>
    have hd : (Pat.either p q).deep = 1 + max p.deep q.deep := rfl
    have hp : ∀ {st}, (toPy st 63 (p.toD id)).isSome = true := st_pat (by omega) (fun a ha => ho a (List.mem_append_left _ ha))
    have hq : ∀ {st}, (toPy st 63 (q.toD id)).isSome = true := st_pat (by omega) (fun a ha => ho a (List.mem_append_right _ ha))
    refine ⟨[.str "either", p.toD id, q.toD id], rfl, fun k ex => ?_, fun k ex m hm => ?_⟩
    · have e : ∀ {st : S} {Q : D → S → Prop}, Rn (eqO (.tup [.str "either", p.toD id, q.toD id, .str "none"]) (.tup [])) st Q = Q (.bl false) st := fun {st Q} => tup_nil (by simp [st_str ok_none, st_str ok_either, hp, hq])
      rw [t_b__law_due]
      simp [b__law_due, isT_tup, e, sz, run_disp5, run_ixS gn, l5E]
    · have e : ∀ {st : S} {Q : D → S → Prop}, Rn (eqO (.tup [.str "either", p.toD id, q.toD id, .str "none"]) (.tup [])) st Q = Q (.bl false) st := fun {st Q} => tup_nil (by simp [st_str ok_none, st_str ok_either, hp, hq])
      rw [t_b_is_pattern_within]
      simp [b_is_pattern_within, isT_tup, isS_str, e, run_kdNin, run_kdIx, run_kdLook lkE, sz]
end K35


namespace K35
open PySem Mx
open L2 (Key)
theorem thing_pat (k n : Nat) (y : Pat Str) (hy : y.deep ≤ 18) (hi : y.items.length ≤ 1000) (ha : PAB y) (st : S) (o0 o2 o3 o4 o5 o6 o7 o8 o9 o10 o11 o12 o13 o14 o15 o17 o18 o19 o20 : Option D) (Q : Es × Fl → S → Prop) (hQ : ∀ o17' ex, Q ([o0, some (.ref n), o2, o3, o4, o5, o6, o7, o8, o9, o10, o11, o12, o13, o14, o15, some (y.toD id), o17', o18, o19, o20], .nx) (st ++ ex)) : Rn (lw3_16b L0 (tb (k + 25)) [o0, some (.ref n), o2, o3, o4, o5, o6, o7, o8, o9, o10, o11, o12, o13, o14, o15, some (y.toD id), o17, o18, o19, o20]) st Q := by
  -- what is due
  have due : ∀ (Q : D → S → Prop), (∀ ex, Q (.bl (ip NM2 y)) (st ++ ex)) → Rn (andD (callD (tb (k + 25) .F_law_due) (consA (varD 16) (nilA))) (andD (opD leO (callD (tb (k + 25) .F_law_deep) (consA (varD 16) (nilA))) (cD (.int 6))) (opD leO (callD (on1 lenD) (consA (callD (tb (k + 25) .F_law_items) (consA (varD 16) (nilA))) (nilA))) (cD (.int 8)))) [o0, some (.ref n), o2, o3, o4, o5, o6, o7, o8, o9, o10, o11, o12, o13, o14, o15, some (y.toD id), o17, o18, o19, o20]) st Q := by
    intro Q hQ
    rw [ip2 ha] at hQ
    simp only [run_pure, run_bind, run_fail, run_guard, run_ite, run_var, run_c, run_op, run_un, run_bOf, run_and, run_or, run_not, run_tst, run_andT, run_orT, run_notT, run_if, run_nilA, run_consA, run_tup, run_new, run_lst, run_call, run_callK, run_lm, run_sli, run_ptno, run_ptat, run_nx, run_ct, run_ret, run_drop, run_seq, run_asg, run_name, run_nilG, run_consG, run_tupG, run_par, run_aug, run_fn, run_forS, run_over, run_blM, run_notM, run_eqI, run_neI, run_eqB, run_neB, run_ltI, run_gtI, run_leI, run_geI, run_ofO, at0, at1, at2, run_ix0, run_ix1, run_ix2, run_sl1, run_seqT, run_lenT, run_addT, run_iaddT, run_addI, run_subI, run_rng, run_yes, run_sub, run_mulI, run_modI, run_fdivI, run_powI, run_intI, run_absI, run_seqR, run_listT, run_minI, run_negI, run_bAddT, List.getElem?_cons_zero, List.getElem?_cons_succ, List.set_cons_zero, List.set_cons_succ, if_true, if_false, Bool.false_eq_true, reduceIte, List.length_cons, List.length_nil, Bool.not_true, Bool.not_false]
    have A := due_ok y (k + 25) (by omega) (by omega) ha
    refine A.run fun ex => ?_
    simp only [run_pure, run_bind, run_fail, run_guard, run_ite, run_var, run_c, run_op, run_un, run_bOf, run_and, run_or, run_not, run_tst, run_andT, run_orT, run_notT, run_if, run_nilA, run_consA, run_tup, run_new, run_lst, run_call, run_callK, run_lm, run_sli, run_ptno, run_ptat, run_nx, run_ct, run_ret, run_drop, run_seq, run_asg, run_name, run_nilG, run_consG, run_tupG, run_par, run_aug, run_fn, run_forS, run_over, run_blM, run_notM, run_eqI, run_neI, run_eqB, run_neB, run_ltI, run_gtI, run_leI, run_geI, run_ofO, at0, at1, at2, run_ix0, run_ix1, run_ix2, run_sl1, run_seqT, run_lenT, run_addT, run_iaddT, run_addI, run_subI, run_rng, run_yes, run_sub, run_mulI, run_modI, run_fdivI, run_powI, run_intI, run_absI, run_seqR, run_listT, run_minI, run_negI, run_bAddT, List.getElem?_cons_zero, List.getElem?_cons_succ, List.set_cons_zero, List.set_cons_succ, if_true, if_false, Bool.false_eq_true, reduceIte, List.length_cons, List.length_nil, Bool.not_true, Bool.not_false]
    have B := deep_ok id y (k + 25) (by omega)
    refine B.run fun ex2 => ?_
    simp only [run_pure, run_bind, run_fail, run_guard, run_ite, run_var, run_c, run_op, run_un, run_bOf, run_and, run_or, run_not, run_tst, run_andT, run_orT, run_notT, run_if, run_nilA, run_consA, run_tup, run_new, run_lst, run_call, run_callK, run_lm, run_sli, run_ptno, run_ptat, run_nx, run_ct, run_ret, run_drop, run_seq, run_asg, run_name, run_nilG, run_consG, run_tupG, run_par, run_aug, run_fn, run_forS, run_over, run_blM, run_notM, run_eqI, run_neI, run_eqB, run_neB, run_ltI, run_gtI, run_leI, run_geI, run_ofO, at0, at1, at2, run_ix0, run_ix1, run_ix2, run_sl1, run_seqT, run_lenT, run_addT, run_iaddT, run_addI, run_subI, run_rng, run_yes, run_sub, run_mulI, run_modI, run_fdivI, run_powI, run_intI, run_absI, run_seqR, run_listT, run_minI, run_negI, run_bAddT, List.getElem?_cons_zero, List.getElem?_cons_succ, List.set_cons_zero, List.set_cons_succ, if_true, if_false, Bool.false_eq_true, reduceIte, List.length_cons, List.length_nil, Bool.not_true, Bool.not_false]
    by_cases h6 : y.deep ≤ 6
    · rw [show decide ((y.deep : Int) ≤ 6) = true by simp; omega]
      simp only [run_pure, run_bind, run_fail, run_guard, run_ite, run_var, run_c, run_op, run_un, run_bOf, run_and, run_or, run_not, run_tst, run_andT, run_orT, run_notT, run_if, run_nilA, run_consA, run_tup, run_new, run_lst, run_call, run_callK, run_lm, run_sli, run_ptno, run_ptat, run_nx, run_ct, run_ret, run_drop, run_seq, run_asg, run_name, run_nilG, run_consG, run_tupG, run_par, run_aug, run_fn, run_forS, run_over, run_blM, run_notM, run_eqI, run_neI, run_eqB, run_neB, run_ltI, run_gtI, run_leI, run_geI, run_ofO, at0, at1, at2, run_ix0, run_ix1, run_ix2, run_sl1, run_seqT, run_lenT, run_addT, run_iaddT, run_addI, run_subI, run_rng, run_yes, run_sub, run_mulI, run_modI, run_fdivI, run_powI, run_intI, run_absI, run_seqR, run_listT, run_minI, run_negI, run_bAddT, List.getElem?_cons_zero, List.getElem?_cons_succ, List.set_cons_zero, List.set_cons_succ, if_true, if_false, Bool.false_eq_true, reduceIte, List.length_cons, List.length_nil, Bool.not_true, Bool.not_false]
      have C := items_ok id y (k + 25) (by omega) (by omega)
      refine C.run fun m ex3 hm hg => ?_
      rw [run_lenR hg]
      simp only [run_pure, run_bind, run_fail, run_guard, run_ite, run_var, run_c, run_op, run_un, run_bOf, run_and, run_or, run_not, run_tst, run_andT, run_orT, run_notT, run_if, run_nilA, run_consA, run_tup, run_new, run_lst, run_call, run_callK, run_lm, run_sli, run_ptno, run_ptat, run_nx, run_ct, run_ret, run_drop, run_seq, run_asg, run_name, run_nilG, run_consG, run_tupG, run_par, run_aug, run_fn, run_forS, run_over, run_blM, run_notM, run_eqI, run_neI, run_eqB, run_neB, run_ltI, run_gtI, run_leI, run_geI, run_ofO, at0, at1, at2, run_ix0, run_ix1, run_ix2, run_sl1, run_seqT, run_lenT, run_addT, run_iaddT, run_addI, run_subI, run_rng, run_yes, run_sub, run_mulI, run_modI, run_fdivI, run_powI, run_intI, run_absI, run_seqR, run_listT, run_minI, run_negI, run_bAddT, List.getElem?_cons_zero, List.getElem?_cons_succ, List.set_cons_zero, List.set_cons_succ, if_true, if_false, Bool.false_eq_true, reduceIte, List.length_cons, List.length_nil, Bool.not_true, Bool.not_false]
      rw [show decide (((y.its id).length : Int) ≤ 8) = decide (y.items.length ≤ 8) by simp [Pat.its]; omega]
      simpa [h6] using hQ (ex ++ (ex2 ++ ex3))
    · rw [show decide ((y.deep : Int) ≤ 6) = false by simp; omega]
      simp only [run_pure, run_bind, run_fail, run_guard, run_ite, run_var, run_c, run_op, run_un, run_bOf, run_and, run_or, run_not, run_tst, run_andT, run_orT, run_notT, run_if, run_nilA, run_consA, run_tup, run_new, run_lst, run_call, run_callK, run_lm, run_sli, run_ptno, run_ptat, run_nx, run_ct, run_ret, run_drop, run_seq, run_asg, run_name, run_nilG, run_consG, run_tupG, run_par, run_aug, run_fn, run_forS, run_over, run_blM, run_notM, run_eqI, run_neI, run_eqB, run_neB, run_ltI, run_gtI, run_leI, run_geI, run_ofO, at0, at1, at2, run_ix0, run_ix1, run_ix2, run_sl1, run_seqT, run_lenT, run_addT, run_iaddT, run_addI, run_subI, run_rng, run_yes, run_sub, run_mulI, run_modI, run_fdivI, run_powI, run_intI, run_absI, run_seqR, run_listT, run_minI, run_negI, run_bAddT, List.getElem?_cons_zero, List.getElem?_cons_succ, List.set_cons_zero, List.set_cons_succ, if_true, if_false, Bool.false_eq_true, reduceIte, List.length_cons, List.length_nil, Bool.not_true, Bool.not_false]
      simpa [h6] using hQ (ex ++ ex2)
  unfold lw3_16b lw3_16_1 lw3_16_2
  rw [run_seq, run_asg]
  refine due _ fun ex => ?_
  simp only [run_pure, run_bind, run_fail, run_guard, run_ite, run_var, run_c, run_op, run_un, run_bOf, run_and, run_or, run_not, run_tst, run_andT, run_orT, run_notT, run_if, run_nilA, run_consA, run_tup, run_new, run_lst, run_call, run_callK, run_lm, run_sli, run_ptno, run_ptat, run_nx, run_ct, run_ret, run_drop, run_seq, run_asg, run_name, run_nilG, run_consG, run_tupG, run_par, run_aug, run_fn, run_forS, run_over, run_blM, run_notM, run_eqI, run_neI, run_eqB, run_neB, run_ltI, run_gtI, run_leI, run_geI, run_ofO, at0, at1, at2, run_ix0, run_ix1, run_ix2, run_sl1, run_seqT, run_lenT, run_addT, run_iaddT, run_addI, run_subI, run_rng, run_yes, run_sub, run_mulI, run_modI, run_fdivI, run_powI, run_intI, run_absI, run_seqR, run_listT, run_minI, run_negI, run_bAddT, List.getElem?_cons_zero, List.getElem?_cons_succ, List.set_cons_zero, List.set_cons_succ, if_true, if_false, Bool.false_eq_true, reduceIte, List.length_cons, List.length_nil, Bool.not_true, Bool.not_false]
  refine ⟨sz (by decide), ?_⟩
  have A := is_pattern_ok NM2 (st ++ ex).length (k + 24) y (st ++ ex ++ [.lst [.str "a", .str "b"]]) (by omega) (by omega) hi ha.ok (by simp [NM2])
  refine A.mono fun d s ⟨e, ex2, e3⟩ => ?_
  subst e e3
  have B := is_ok (k + 24) (.bl (ip NM2 y)) (by simp [pl]) (rp_bl _)
  refine B.run fun ex3 => ?_
  simp only [run_pure, run_bind, run_fail, run_guard, run_ite, run_var, run_c, run_op, run_un, run_bOf, run_and, run_or, run_not, run_tst, run_andT, run_orT, run_notT, run_if, run_nilA, run_consA, run_tup, run_new, run_lst, run_call, run_callK, run_lm, run_sli, run_ptno, run_ptat, run_nx, run_ct, run_ret, run_drop, run_seq, run_asg, run_name, run_nilG, run_consG, run_tupG, run_par, run_aug, run_fn, run_forS, run_over, run_blM, run_notM, run_eqI, run_neI, run_eqB, run_neB, run_ltI, run_gtI, run_leI, run_geI, run_ofO, at0, at1, at2, run_ix0, run_ix1, run_ix2, run_sl1, run_seqT, run_lenT, run_addT, run_iaddT, run_addI, run_subI, run_rng, run_yes, run_sub, run_mulI, run_modI, run_fdivI, run_powI, run_intI, run_absI, run_seqR, run_listT, run_minI, run_negI, run_bAddT, List.getElem?_cons_zero, List.getElem?_cons_succ, List.set_cons_zero, List.set_cons_succ, if_true, if_false, Bool.false_eq_true, reduceIte, List.length_cons, List.length_nil, Bool.not_true, Bool.not_false]
  simpa using hQ (some (.bl (ip NM2 y))) (ex ++ O.lst [.str "a", .str "b"] :: (ex2 ++ ex3))
theorem thing_bad (k n : Nat) (d : D) (st0 ex0 : S) (hb : Bad st0 d) (o0 o2 o3 o4 o5 o6 o7 o8 o9 o10 o11 o12 o13 o14 o15 o17 o18 o19 o20 : Option D) (Q : Es × Fl → S → Prop) (hQ : ∀ o17' ex, Q ([o0, some (.ref n), o2, o3, o4, o5, o6, o7, o8, o9, o10, o11, o12, o13, o14, o15, some d, o17', o18, o19, o20], .nx) (st0 ++ ex0 ++ ex)) : Rn (lw3_16b L0 (tb (k + 25)) [o0, some (.ref n), o2, o3, o4, o5, o6, o7, o8, o9, o10, o11, o12, o13, o14, o15, some d, o17, o18, o19, o20]) (st0 ++ ex0) Q := by
  unfold lw3_16b lw3_16_1 lw3_16_2
  simp only [run_pure, run_bind, run_fail, run_guard, run_ite, run_var, run_c, run_op, run_un, run_bOf, run_and, run_or, run_not, run_tst, run_andT, run_orT, run_notT, run_if, run_nilA, run_consA, run_tup, run_new, run_lst, run_call, run_callK, run_lm, run_sli, run_ptno, run_ptat, run_nx, run_ct, run_ret, run_drop, run_seq, run_asg, run_name, run_nilG, run_consG, run_tupG, run_par, run_aug, run_fn, run_forS, run_over, run_blM, run_notM, run_eqI, run_neI, run_eqB, run_neB, run_ltI, run_gtI, run_leI, run_geI, run_ofO, at0, at1, at2, run_ix0, run_ix1, run_ix2, run_sl1, run_seqT, run_lenT, run_addT, run_iaddT, run_addI, run_subI, run_rng, run_yes, run_sub, run_mulI, run_modI, run_fdivI, run_powI, run_intI, run_absI, run_seqR, run_listT, run_minI, run_negI, run_bAddT, List.getElem?_cons_zero, List.getElem?_cons_succ, List.set_cons_zero, List.set_cons_succ, if_true, if_false, Bool.false_eq_true, reduceIte, List.length_cons, List.length_nil, Bool.not_true, Bool.not_false]
  have A := hb.due (k + 24) ex0
  refine A.mono fun x s ⟨e1, ex, e2⟩ => ?_
  subst e1 e2
  simp only [run_pure, run_bind, run_fail, run_guard, run_ite, run_var, run_c, run_op, run_un, run_bOf, run_and, run_or, run_not, run_tst, run_andT, run_orT, run_notT, run_if, run_nilA, run_consA, run_tup, run_new, run_lst, run_call, run_callK, run_lm, run_sli, run_ptno, run_ptat, run_nx, run_ct, run_ret, run_drop, run_seq, run_asg, run_name, run_nilG, run_consG, run_tupG, run_par, run_aug, run_fn, run_forS, run_over, run_blM, run_notM, run_eqI, run_neI, run_eqB, run_neB, run_ltI, run_gtI, run_leI, run_geI, run_ofO, at0, at1, at2, run_ix0, run_ix1, run_ix2, run_sl1, run_seqT, run_lenT, run_addT, run_iaddT, run_addI, run_subI, run_rng, run_yes, run_sub, run_mulI, run_modI, run_fdivI, run_powI, run_intI, run_absI, run_seqR, run_listT, run_minI, run_negI, run_bAddT, List.getElem?_cons_zero, List.getElem?_cons_succ, List.set_cons_zero, List.set_cons_succ, if_true, if_false, Bool.false_eq_true, reduceIte, List.length_cons, List.length_nil, Bool.not_true, Bool.not_false]
  refine ⟨sz (by decide), ?_⟩
  rw [t_b_is_pattern]
  unfold b_is_pattern
  simp only [run_pure, run_bind, run_fail, run_guard, run_ite, run_var, run_c, run_op, run_un, run_bOf, run_and, run_or, run_not, run_tst, run_andT, run_orT, run_notT, run_if, run_nilA, run_consA, run_tup, run_new, run_lst, run_call, run_callK, run_lm, run_sli, run_ptno, run_ptat, run_nx, run_ct, run_ret, run_drop, run_seq, run_asg, run_name, run_nilG, run_consG, run_tupG, run_par, run_aug, run_fn, run_forS, run_over, run_blM, run_notM, run_eqI, run_neI, run_eqB, run_neB, run_ltI, run_gtI, run_leI, run_geI, run_ofO, at0, at1, at2, run_ix0, run_ix1, run_ix2, run_sl1, run_seqT, run_lenT, run_addT, run_iaddT, run_addI, run_subI, run_rng, run_yes, run_sub, run_mulI, run_modI, run_fdivI, run_powI, run_intI, run_absI, run_seqR, run_listT, run_minI, run_negI, run_bAddT, List.getElem?_cons_zero, List.getElem?_cons_succ, List.set_cons_zero, List.set_cons_succ, if_true, if_false, Bool.false_eq_true, reduceIte, List.length_cons, List.length_nil, Bool.not_true, Bool.not_false]
  refine ⟨trivial, ?_⟩
  have B := hb.pat (k + 23) (ex0 ++ ex ++ [.lst [.str "a", .str "b"]]) (st0 ++ ex0 ++ ex).length (by
    have := gn (st := st0 ++ ex0 ++ ex) (o := O.lst [.str "a", .str "b"])
    simpa [NM2] using this)
  have e : st0 ++ (ex0 ++ ex ++ [O.lst [.str "a", .str "b"]]) = st0 ++ ex0 ++ ex ++ [O.lst [.str "a", .str "b"]] := by simp
  rw [e] at B
  refine B.mono fun x s ⟨e1, ex2, e2⟩ => ?_
  subst e1 e2
  simp only [run_pure, run_bind, run_fail, run_guard, run_ite, run_var, run_c, run_op, run_un, run_bOf, run_and, run_or, run_not, run_tst, run_andT, run_orT, run_notT, run_if, run_nilA, run_consA, run_tup, run_new, run_lst, run_call, run_callK, run_lm, run_sli, run_ptno, run_ptat, run_nx, run_ct, run_ret, run_drop, run_seq, run_asg, run_name, run_nilG, run_consG, run_tupG, run_par, run_aug, run_fn, run_forS, run_over, run_blM, run_notM, run_eqI, run_neI, run_eqB, run_neB, run_ltI, run_gtI, run_leI, run_geI, run_ofO, at0, at1, at2, run_ix0, run_ix1, run_ix2, run_sl1, run_seqT, run_lenT, run_addT, run_iaddT, run_addI, run_subI, run_rng, run_yes, run_sub, run_mulI, run_modI, run_fdivI, run_powI, run_intI, run_absI, run_seqR, run_listT, run_minI, run_negI, run_bAddT, List.getElem?_cons_zero, List.getElem?_cons_succ, List.set_cons_zero, List.set_cons_succ, if_true, if_false, Bool.false_eq_true, reduceIte, List.length_cons, List.length_nil, Bool.not_true, Bool.not_false]
  have C := is_ok (k + 24) (.bl false) (by simp [pl]) (rp_bl _)
  refine C.run fun ex3 => ?_
  simp only [run_pure, run_bind, run_fail, run_guard, run_ite, run_var, run_c, run_op, run_un, run_bOf, run_and, run_or, run_not, run_tst, run_andT, run_orT, run_notT, run_if, run_nilA, run_consA, run_tup, run_new, run_lst, run_call, run_callK, run_lm, run_sli, run_ptno, run_ptat, run_nx, run_ct, run_ret, run_drop, run_seq, run_asg, run_name, run_nilG, run_consG, run_tupG, run_par, run_aug, run_fn, run_forS, run_over, run_blM, run_notM, run_eqI, run_neI, run_eqB, run_neB, run_ltI, run_gtI, run_leI, run_geI, run_ofO, at0, at1, at2, run_ix0, run_ix1, run_ix2, run_sl1, run_seqT, run_lenT, run_addT, run_iaddT, run_addI, run_subI, run_rng, run_yes, run_sub, run_mulI, run_modI, run_fdivI, run_powI, run_intI, run_absI, run_seqR, run_listT, run_minI, run_negI, run_bAddT, List.getElem?_cons_zero, List.getElem?_cons_succ, List.set_cons_zero, List.set_cons_succ, if_true, if_false, Bool.false_eq_true, reduceIte, List.length_cons, List.length_nil, Bool.not_true, Bool.not_false]
  simpa using hQ (some (.bl false)) (ex ++ O.lst [.str "a", .str "b"] :: (ex2 ++ ex3))
end K35


namespace K35
open PySem Mx
open L2 (Key)
theorem lp16 (k n : Nat) (p y z : Pat Str) (hp : p.deep ≤ 6) (ha : PAB p) (hy : y.deep ≤ 18) (hyi : y.items.length ≤ 1000) (hya : PAB y) (hz : z.deep ≤ 18) (hzi : z.items.length ≤ 1000) (hza : PAB z) (st : S) (o0 o2 o4 o5 o6 o7 o8 o9 o10 o11 o12 o13 o16 o17 o18 o19 o20 : Option D) (Q : Es × Fl → S → Prop) (hQ : ∀ o16' o17' ex, Q ([o0, some (.ref n), o2, some (p.toD id), o4, o5, o6, o7, o8, o9, o10, o11, o12, o13, some (y.toD id), some (z.toD id), o16', o17', o18, o19, o20], .nx) (st ++ ex)) : Rn (lw3_16 L0 (tb (k + 25)) [o0, some (.ref n), o2, some (p.toD id), o4, o5, o6, o7, o8, o9, o10, o11, o12, o13, some (y.toD id), some (z.toD id), o16, o17, o18, o19, o20]) st Q := by
  obtain ⟨xs, hxs, _⟩ := bad_more st (p := p) (by omega) ha.ok
  have hxl : xs.length ≤ 3 := by
    cases p <;> (injection hxs with hxs; rw [← hxs]; simp)
  unfold lw3_16
  rw [hxs] at hQ ⊢
  simp only [run_pure, run_bind, run_fail, run_guard, run_ite, run_var, run_c, run_op, run_un, run_bOf, run_and, run_or, run_not, run_tst, run_andT, run_orT, run_notT, run_if, run_nilA, run_consA, run_tup, run_new, run_lst, run_call, run_callK, run_lm, run_sli, run_ptno, run_ptat, run_nx, run_ct, run_ret, run_drop, run_seq, run_asg, run_name, run_nilG, run_consG, run_tupG, run_par, run_aug, run_fn, run_forS, run_over, run_blM, run_notM, run_eqI, run_neI, run_eqB, run_neB, run_ltI, run_gtI, run_leI, run_geI, run_ofO, at0, at1, at2, run_ix0, run_ix1, run_ix2, run_sl1, run_seqT, run_lenT, run_addT, run_iaddT, run_addI, run_subI, run_rng, run_yes, run_sub, run_mulI, run_modI, run_fdivI, run_powI, run_intI, run_absI, run_seqR, run_listT, run_minI, run_negI, run_bAddT, List.getElem?_cons_zero, List.getElem?_cons_succ, List.set_cons_zero, List.set_cons_succ, if_true, if_false, Bool.false_eq_true, reduceIte, List.length_cons, List.length_nil, Bool.not_true, Bool.not_false]
  repeat refine ⟨sz (by first | decide | (simp; omega)), ?_⟩
  have hst1 : (st ++ [O.lst xs] ++ [O.lst [D.str "a"]])[st.length]? = some (.lst xs) := ga gn
  have hst2 : (st ++ [O.lst xs] ++ [O.lst [D.str "a"]])[(st ++ [O.lst xs]).length]? = some (.lst [D.str "a"]) := gn
  generalize hs1 : st ++ [O.lst xs] ++ [O.lst [D.str "a"]] = st1 at hst1 hst2 ⊢
  have hall : ∀ d ∈ ([y.toD id, z.toD id, .ref st.length, .tup (xs ++ [.str "none"]), .tup [], .non, .tup [.str "item", .str "c"], .tup [.str "item", .int 5], .tup [.str "some", .tup xs], .tup [.str "row", .tup xs], .tup [.str "many", .tup xs, .tup xs], .tup [.str "item", .ref (List.length (st ++ [O.lst xs]))]] : List D), (∃ w : Pat Str, d = w.toD id ∧ w.deep ≤ 18 ∧ w.items.length ≤ 1000 ∧ PAB w) ∨ Bad st1 d := by
    intro d hd
    simp only [List.mem_cons, List.not_mem_nil, or_false] at hd
    rcases hd with rfl | rfl | rfl | rfl | rfl | rfl | rfl | rfl | rfl | rfl | rfl | rfl
    · exact .inl ⟨y, rfl, hy, hyi, hya⟩
    · exact .inl ⟨z, rfl, hz, hzi, hza⟩
    · exact .inr (bad_list hst1)
    · obtain ⟨xs2, e, hb⟩ := bad_more st1 (p := p) (by omega) ha.ok
      rw [hxs] at e
      injection e with e
      rw [e]
      exact .inr hb
    · exact .inr (bad_nil st1)
    · exact .inr (bad_non st1)
    · exact .inr (bad_c st1)
    · exact .inr (bad_5 st1)
    · exact .inr (hxs ▸ bad_some st1 (p := p) (by omega) ha.ok)
    · exact .inr (hxs ▸ bad_row st1 (p := p) (by omega) ha.ok)
    · exact .inr (hxs ▸ bad_many st1 (p := p) (by omega) ha.ok)
    · exact .inr (bad_la hst2)
  have hlen : ([y.toD id, z.toD id, .ref st.length, .tup (xs ++ [.str "none"]), .tup [], .non, .tup [.str "item", .str "c"], .tup [.str "item", .int 5], .tup [.str "some", .tup xs], .tup [.str "row", .tup xs], .tup [.str "many", .tup xs, .tup xs], .tup [.str "item", .ref (List.length (st ++ [O.lst xs]))]] : List D).length = 12 := rfl
  generalize ([y.toD id, z.toD id, .ref st.length, .tup (xs ++ [.str "none"]), .tup [], .non, .tup [.str "item", .str "c"], .tup [.str "item", .int 5], .tup [.str "some", .tup xs], .tup [.str "row", .tup xs], .tup [.str "many", .tup xs, .tup xs], .tup [.str "item", .ref (List.length (st ++ [O.lst xs]))]] : List D) = ds at hall hlen ⊢
  rw [run_live gn]
  refine run_for (ds := ds) (fun i es s => ∃ o16' o17' ex, es = [o0, some (.ref n), o2, some (.tup xs), o4, o5, o6, o7, o8, o9, o10, o11, o12, o13, some (y.toD id), some (z.toD id), o16', o17', o18, o19, o20] ∧ s = st1 ++ ([.lst ds] ++ ex)) (fun i es s ⟨o16', o17', ex, e1, e2⟩ => live_at (by rw [e2, ← List.append_assoc]; exact ga gn)) ?_ ?_ _ _ _ _ ?_ ?_ ?_
  · rintro i d es s hd ⟨o16', o17', ex, rfl, rfl⟩
    simp only [run_pure, run_bind, run_fail, run_guard, run_ite, run_var, run_c, run_op, run_un, run_bOf, run_and, run_or, run_not, run_tst, run_andT, run_orT, run_notT, run_if, run_nilA, run_consA, run_tup, run_new, run_lst, run_call, run_callK, run_lm, run_sli, run_ptno, run_ptat, run_nx, run_ct, run_ret, run_drop, run_seq, run_asg, run_name, run_nilG, run_consG, run_tupG, run_par, run_aug, run_fn, run_forS, run_over, run_blM, run_notM, run_eqI, run_neI, run_eqB, run_neB, run_ltI, run_gtI, run_leI, run_geI, run_ofO, at0, at1, at2, run_ix0, run_ix1, run_ix2, run_sl1, run_seqT, run_lenT, run_addT, run_iaddT, run_addI, run_subI, run_rng, run_yes, run_sub, run_mulI, run_modI, run_fdivI, run_powI, run_intI, run_absI, run_seqR, run_listT, run_minI, run_negI, run_bAddT, List.getElem?_cons_zero, List.getElem?_cons_succ, List.set_cons_zero, List.set_cons_succ, if_true, if_false, Bool.false_eq_true, reduceIte, List.length_cons, List.length_nil, Bool.not_true, Bool.not_false]
    rcases hall d (List.mem_of_getElem? hd) with ⟨w, rfl, w1, w2, w3⟩ | hb
    · have A := thing_pat k n w w1 w2 w3 (st1 ++ ([O.lst ds] ++ ex)) o0 o2 (some (.tup xs)) o4 o5 o6 o7 o8 o9 o10 o11 o12 o13 (some (y.toD id)) (some (z.toD id)) o17' o18 o19 o20
      refine A _ fun o17'' ex2 => ?_
      exact ⟨_, _, ex ++ ex2, rfl, by simp⟩
    · have A := thing_bad k n d st1 ([O.lst ds] ++ ex) hb o0 o2 (some (.tup xs)) o4 o5 o6 o7 o8 o9 o10 o11 o12 o13 (some (y.toD id)) (some (z.toD id)) o17' o18 o19 o20
      refine A _ fun o17'' ex2 => ?_
      exact ⟨_, _, ex ++ ex2, rfl, by simp⟩
  · rintro es s ⟨o16', o17', ex, rfl, rfl⟩
    rw [← hs1, List.append_assoc, List.append_assoc]
    exact hQ o16' o17' _
  · exact lt0 (by omega)
  · exact Nat.zero_le _
  · exact ⟨o16, o17, [], rfl, by simp⟩
end K35


namespace K35
open PySem Mx
open L2 (Key)
theorem Drw.ltc {n g c T : Nat} {st : S} (h : Drw n g c T st) : c < st.length := by
  obtain ⟨ng, nc, gc, ⟨r, t, r0, t0, tT, hd⟩, ⟨gs, g0, gl, hg⟩, ⟨cs, cl, hc⟩⟩ := h
  exact (List.getElem?_eq_some_iff.mp hc).1
theorem Rows.up {m a b : Nat} {rs : List (List Int)} (h : Rows m a rs) (i : a ≤ b) : Rows m b rs := fun row hrow => ⟨by have := (h row hrow).1; omega, (h row hrow).2⟩
theorem lap_ok (k n g c T : Nat) (st : S) (h : Drw n g c T st) (hT : T + 400 ≤ 1000000) (o0 o2 o3 o4 o5 o6 o7 o8 o9 o10 o11 o12 o13 o14 o15 o16 o17 o18 o19 o20 : Option D) (Q : Es × Fl → S → Prop) (hQ : ∀ f p3 p4 p5 p6 p7 p8 p9 p10 p11 p12 p13 p14 p15 p16 p17 s, (f = .nx ∨ f = .ct) → Drw n g c (T + 400) s → Q ([o0, some (.ref n), o2, p3, p4, p5, p6, p7, p8, p9, p10, p11, p12, p13, p14, p15, p16, p17, o18, o19, o20], f) s) : Rn (lw3b L0 (tb (k + 25)) [o0, some (.ref n), o2, o3, o4, o5, o6, o7, o8, o9, o10, o11, o12, o13, o14, o15, o16, o17, o18, o19, o20]) st Q := by
  unfold lw3b
  rw [run_seq]
  have L1 := lp1 (k + 10) n g c T st h (by omega) o0 o2 o3 o4 o5 o6 o7 o8 o9 o10 o11 o12 o13 o14 o15 o16 o17 o18 o19 o20
  refine L1.mono fun q s1 ⟨pt, e, ha, hp, h1⟩ => ?_
  clear L1
  subst e
  dsimp only
  rw [run_seq]
  have L2 := lp2 (k + 10) n g c (T + 300) s1 h1 pt hp o0 o2 o4 o5 o6 o7 o8 o9 o10 o11 o12 o13 o14 o15 o16 o17 o18 o19 o20
  refine L2.mono fun q s2 ⟨m, e, h2, hm⟩ => ?_
  clear L2
  subst e
  dsimp only
  rw [run_seq]
  have L3 := lp3 (k + 10) n m s2 pt hp hm o0 o2 o5 o6 o7 o8 o9 o10 o11 o12 o13 o14 o15 o16 o17 o18 o19 o20
  refine L3.mono fun q s3 ⟨e, ex3, e3⟩ => ?_
  clear L3
  subst e e3
  dsimp only
  rw [run_seq]
  have L4 := lp4 k n m (s2 ++ ex3) pt hp ha (ga hm) o0 o2 o6 o7 o8 o9 o10 o11 o12 o13 o14 o15 o16 o17 o18 o19 o20
  refine L4.mono fun q s4 ⟨e, ex4, e4⟩ => ?_
  clear L4
  subst e e4
  dsimp only
  have h4 : Drw n g c (T + 300) (s2 ++ ex3 ++ ex4) := (h2.app _).app _
  have hm4 : (s2 ++ ex3 ++ ex4)[m]? = some (.lst (pt.its id)) := ga (ga hm)
  generalize s2 ++ ex3 ++ ex4 = s4 at h4 hm4 ⊢
  rw [run_seq]
  unfold lw3_5
  simp only [run_pure, run_bind, run_fail, run_guard, run_ite, run_var, run_c, run_op, run_un, run_bOf, run_and, run_or, run_not, run_tst, run_andT, run_orT, run_notT, run_if, run_nilA, run_consA, run_tup, run_new, run_lst, run_call, run_callK, run_lm, run_sli, run_ptno, run_ptat, run_nx, run_ct, run_ret, run_drop, run_seq, run_asg, run_name, run_nilG, run_consG, run_tupG, run_par, run_aug, run_fn, run_forS, run_over, run_blM, run_notM, run_eqI, run_neI, run_eqB, run_neB, run_ltI, run_gtI, run_leI, run_geI, run_ofO, at0, at1, at2, run_ix0, run_ix1, run_ix2, run_sl1, run_seqT, run_lenT, run_addT, run_iaddT, run_addI, run_subI, run_rng, run_yes, run_sub, run_mulI, run_modI, run_fdivI, run_powI, run_intI, run_absI, run_seqR, run_listT, run_minI, run_negI, run_bAddT, List.getElem?_cons_zero, List.getElem?_cons_succ, List.set_cons_zero, List.set_cons_succ, if_true, if_false, Bool.false_eq_true, reduceIte, List.length_cons, List.length_nil, Bool.not_true, Bool.not_false]
  by_cases hi : pt.items.length ≤ 8
  case neg =>
    rw [decide_eq_false hi]
    simp only [run_pure, run_bind, run_fail, run_guard, run_ite, run_var, run_c, run_op, run_un, run_bOf, run_and, run_or, run_not, run_tst, run_andT, run_orT, run_notT, run_if, run_nilA, run_consA, run_tup, run_new, run_lst, run_call, run_callK, run_lm, run_sli, run_ptno, run_ptat, run_nx, run_ct, run_ret, run_drop, run_seq, run_asg, run_name, run_nilG, run_consG, run_tupG, run_par, run_aug, run_fn, run_forS, run_over, run_blM, run_notM, run_eqI, run_neI, run_eqB, run_neB, run_ltI, run_gtI, run_leI, run_geI, run_ofO, at0, at1, at2, run_ix0, run_ix1, run_ix2, run_sl1, run_seqT, run_lenT, run_addT, run_iaddT, run_addI, run_subI, run_rng, run_yes, run_sub, run_mulI, run_modI, run_fdivI, run_powI, run_intI, run_absI, run_seqR, run_listT, run_minI, run_negI, run_bAddT, List.getElem?_cons_zero, List.getElem?_cons_succ, List.set_cons_zero, List.set_cons_succ, if_true, if_false, Bool.false_eq_true, reduceIte, List.length_cons, List.length_nil, Bool.not_true, Bool.not_false]
    exact hQ _ _ _ _ _ _ _ _ _ _ _ _ _ _ _ _ _ (.inr rfl) (h4.up (by omega))
  rw [decide_eq_true hi]
  simp only [run_pure, run_bind, run_fail, run_guard, run_ite, run_var, run_c, run_op, run_un, run_bOf, run_and, run_or, run_not, run_tst, run_andT, run_orT, run_notT, run_if, run_nilA, run_consA, run_tup, run_new, run_lst, run_call, run_callK, run_lm, run_sli, run_ptno, run_ptat, run_nx, run_ct, run_ret, run_drop, run_seq, run_asg, run_name, run_nilG, run_consG, run_tupG, run_par, run_aug, run_fn, run_forS, run_over, run_blM, run_notM, run_eqI, run_neI, run_eqB, run_neB, run_ltI, run_gtI, run_leI, run_geI, run_ofO, at0, at1, at2, run_ix0, run_ix1, run_ix2, run_sl1, run_seqT, run_lenT, run_addT, run_iaddT, run_addI, run_subI, run_rng, run_yes, run_sub, run_mulI, run_modI, run_fdivI, run_powI, run_intI, run_absI, run_seqR, run_listT, run_minI, run_negI, run_bAddT, List.getElem?_cons_zero, List.getElem?_cons_succ, List.set_cons_zero, List.set_cons_succ, if_true, if_false, Bool.false_eq_true, reduceIte, List.length_cons, List.length_nil, Bool.not_true, Bool.not_false]
  have L6 := lp6 k n m s4 pt hp hi hm4 o0 o2 (some (.bl true)) o6 o7 o8 o9 o10 o11 o12 o13 o14 o15 o16 o17 o18 o19 o20
  refine L6.mono fun q s6 ⟨e, ex6, e6⟩ => ?_
  clear L6
  subst e e6
  dsimp only
  have L7 := lp7 k n m (s4 ++ ex6) pt hp hi ha (ga hm4) o0 o2 (some (.bl true)) (some (.int pt.items.length)) o8 o9 o10 o11 o12 o13 o14 o15 o16 o17 o18 o19 o20
  refine L7.mono fun q s7 ⟨e, ex7, e7⟩ => ?_
  clear L7
  subst e e7
  dsimp only
  have L8 := lp8 k n m (s4 ++ ex6 ++ ex7) pt hp hi o0 o2 (some (.bl true)) o8 o9 o10 o11 o12 o13 o14 o15 o16 o17 o18 o19 o20
  refine L8.mono fun q s8 ⟨e, ex8, e8⟩ => ?_
  clear L8
  subst e e8
  dsimp only
  have h8 : Drw n g c (T + 300) (s4 ++ ex6 ++ ex7 ++ ex8) := ((h4.app _).app _).app _
  generalize s4 ++ ex6 ++ ex7 ++ ex8 = s8 at h8 ⊢
  have L9 := lp9 k n s8 pt hp hi o0 o2 (some (.ref m)) (some (.bl true)) (some (mvD (pt.num 0))) (some (.int pt.items.length)) o8 o9 o10 o11 o12 o13 o14 o15 o16 o17 o18 o19 o20
  refine L9 _ fun r ex9 hr e9 => ?_
  clear L9
  dsimp only
  have h9 := h8.app ex9
  have hl := h8.lt
  have hlc := h8.ltc
  have L10 := lp10 pt.items.length hi (tb (k + 25)) r (s8 ++ ex9) e9 o0 (some (.ref n)) o2 (some (pt.toD id)) (some (.ref m)) (some (.bl true)) (some (mvD (pt.num 0))) (some ((pt.num 0).toD sI)) o10 o11 o12 o13 o14 o15 o16 o17 o18 o19 o20
  refine L10 _ fun r2 a10 a11 a12 ex10 rs hr2 e10 hrs hR => ?_
  clear L10
  dsimp only
  have h10 := h9.app ex10
  have hr3 : s8.length ≤ r2 := by
    rcases hr2 with rfl | hr2
    · exact hr
    · rw [List.length_append] at hr2; omega
  have L11 := lp11 k n g c (T + 300) pt.items.length hi _ h10 (by omega) r2 (by omega) (by omega) (by omega) rs e10 hrs (hR.up (by decide)) o0 o2 (some (pt.toD id)) (some (.ref m)) (some (.bl true)) (some (mvD (pt.num 0))) (some ((pt.num 0).toD sI)) (a10) (a11) (a12) o13 o14 o15 o16 o17 o18 o19 o20
  refine L11 _ fun a13 s11 rs2 h11 e11 hrs2 hR2 => ?_
  clear L11
  dsimp only
  have L12 := lp12 k n pt hp hi s11 r2 rs2 e11 hrs2 hR2 o0 o2 (some (.ref m)) (some (.bl true)) (some (.int pt.items.length)) (a10) (a11) (a12) (a13) o14 o15 o16 o17 o18 o19 o20
  refine L12 _ fun b12 ex12 => ?_
  clear L12
  unfold lw3_13
  simp only [run_pure, run_bind, run_fail, run_guard, run_ite, run_var, run_c, run_op, run_un, run_bOf, run_and, run_or, run_not, run_tst, run_andT, run_orT, run_notT, run_if, run_nilA, run_consA, run_tup, run_new, run_lst, run_call, run_callK, run_lm, run_sli, run_ptno, run_ptat, run_nx, run_ct, run_ret, run_drop, run_seq, run_asg, run_name, run_nilG, run_consG, run_tupG, run_par, run_aug, run_fn, run_forS, run_over, run_blM, run_notM, run_eqI, run_neI, run_eqB, run_neB, run_ltI, run_gtI, run_leI, run_geI, run_ofO, at0, at1, at2, run_ix0, run_ix1, run_ix2, run_sl1, run_seqT, run_lenT, run_addT, run_iaddT, run_addI, run_subI, run_rng, run_yes, run_sub, run_mulI, run_modI, run_fdivI, run_powI, run_intI, run_absI, run_seqR, run_listT, run_minI, run_negI, run_bAddT, List.getElem?_cons_zero, List.getElem?_cons_succ, List.set_cons_zero, List.set_cons_succ, if_true, if_false, Bool.false_eq_true, reduceIte, List.length_cons, List.length_nil, Bool.not_true, Bool.not_false]
  have h12 := h11.app ex12
  have L14 := lp14 k n pt hp (s11 ++ ex12) o0 o2 (some (.ref m)) (some (.bl true)) (some (mvD (pt.num 0))) (some (.int pt.items.length)) (some ((pt.num 0).toD sI)) (some (.ref r2)) (a10) (a11) (b12) (a13) (some (pt.toD id)) o16 o17 o18 o19 o20
  refine L14 _ fun b13 ex14 y hy hyi => ?_
  clear L14
  dsimp only
  have h14 := h12.app ex14
  unfold lw3_15
  have L15 := lp15 k n (fun _ => none) 9 L0 pt (s11 ++ ex12 ++ ex14) (by omega) (lt0 (by decide)) (by omega) (by omega) ha o0 o2 (some (pt.toD id)) (some (.ref m)) (some (.bl true)) (some (mvD (pt.num 0))) (some (.int pt.items.length)) (some ((pt.num 0).toD sI)) (some (.ref r2)) (a10) (a11) (b12) (b13) (some (y.toD id)) o16 o17 o18 o19 o20
  refine L15 _ fun ex15 z hza hzd hz9 hzi => ?_
  clear L15
  dsimp only
  have h15 := h14.app ex15
  have L16 := lp16 k n pt y z hp ha (by omega) (by rw [hyi]; omega) (fun a h => ha a (by rw [← hyi]; exact h)) (by omega) (by omega) hza (s11 ++ ex12 ++ ex14 ++ ex15) o0 o2 (some (.ref m)) (some (.bl true)) (some (mvD (pt.num 0))) (some (.int pt.items.length)) (some ((pt.num 0).toD sI)) (some (.ref r2)) (a10) (a11) (b12) (b13) o16 o17 o18 o19 o20
  refine L16 _ fun c16 c17 ex16 => ?_
  exact hQ _ _ _ _ _ _ _ _ _ _ _ _ _ _ _ _ _ (.inl rfl) ((h15.app _).up (by omega))
end K35


namespace K35
open PySem Mx
open L2 (Key)
def p0 : Pat Str := .row (.many (.item "a")) (.either (.item "b") .none)
theorem p0_mv : mvD (p0.num 0) = cMoves := rfl
theorem law2 (k n : Nat) (st : S) (o0 o2 o3 o4 o5 o6 o7 o8 o9 o10 o11 o12 o13 o14 o15 o16 o17 o18 o19 o20 : Option D) (Q : Es × Fl → S → Prop) (hQ : ∀ ex, Q ([o0, some (.ref n), o2, o3, o4, o5, o6, o7, o8, o9, o10, o11, o12, o13, o14, o15, o16, o17, o18, o19, o20], .nx) (st ++ ex)) : Rn (lw2 L0 (tb (k + 25)) [o0, some (.ref n), o2, o3, o4, o5, o6, o7, o8, o9, o10, o11, o12, o13, o14, o15, o16, o17, o18, o19, o20]) st Q := by
  unfold lw2
  simp only [run_pure, run_bind, run_fail, run_guard, run_ite, run_var, run_c, run_op, run_un, run_bOf, run_and, run_or, run_not, run_tst, run_andT, run_orT, run_notT, run_if, run_nilA, run_consA, run_tup, run_new, run_lst, run_call, run_callK, run_lm, run_sli, run_ptno, run_ptat, run_nx, run_ct, run_ret, run_drop, run_seq, run_asg, run_name, run_nilG, run_consG, run_tupG, run_par, run_aug, run_fn, run_forS, run_over, run_blM, run_notM, run_eqI, run_neI, run_eqB, run_neB, run_ltI, run_gtI, run_leI, run_geI, run_ofO, at0, at1, at2, run_ix0, run_ix1, run_ix2, run_sl1, run_seqT, run_lenT, run_addT, run_iaddT, run_addI, run_subI, run_rng, run_yes, run_sub, run_mulI, run_modI, run_fdivI, run_powI, run_intI, run_absI, run_seqR, run_listT, run_minI, run_negI, run_bAddT, List.getElem?_cons_zero, List.getElem?_cons_succ, List.set_cons_zero, List.set_cons_succ, if_true, if_false, Bool.false_eq_true, reduceIte, List.length_cons, List.length_nil, Bool.not_true, Bool.not_false]
  repeat refine ⟨sz (by decide), ?_⟩
  have A := moves_of_ok id p0 (k + 24) (by show 3 + 1 ≤ k + 24; omega) (by decide) (by decide)
  refine A.run fun ex => ?_
  repeat refine ⟨sz (by decide), ?_⟩
  rw [p0_mv]
  have B := is_ok (k + 24) cMoves (by show pl (k + 20 + 4) cMoves = true; rfl) rp_const
  refine B.run fun ex2 => ?_
  simp only [run_pure, run_bind, run_fail, run_guard, run_ite, run_var, run_c, run_op, run_un, run_bOf, run_and, run_or, run_not, run_tst, run_andT, run_orT, run_notT, run_if, run_nilA, run_consA, run_tup, run_new, run_lst, run_call, run_callK, run_lm, run_sli, run_ptno, run_ptat, run_nx, run_ct, run_ret, run_drop, run_seq, run_asg, run_name, run_nilG, run_consG, run_tupG, run_par, run_aug, run_fn, run_forS, run_over, run_blM, run_notM, run_eqI, run_neI, run_eqB, run_neB, run_ltI, run_gtI, run_leI, run_geI, run_ofO, at0, at1, at2, run_ix0, run_ix1, run_ix2, run_sl1, run_seqT, run_lenT, run_addT, run_iaddT, run_addI, run_subI, run_rng, run_yes, run_sub, run_mulI, run_modI, run_fdivI, run_powI, run_intI, run_absI, run_seqR, run_listT, run_minI, run_negI, run_bAddT, List.getElem?_cons_zero, List.getElem?_cons_succ, List.set_cons_zero, List.set_cons_succ, if_true, if_false, Bool.false_eq_true, reduceIte, List.length_cons, List.length_nil, Bool.not_true, Bool.not_false]
  rw [List.append_assoc]
  exact hQ _
theorem law3 (k n g c : Nat) (st : S) (h : Drw n g c 0 st) (o0 o2 o3 o4 o5 o6 o7 o8 o9 o10 o11 o12 o13 o14 o15 o16 o17 o18 o19 o20 : Option D) (Q : Es × Fl → S → Prop) (hQ : ∀ (p : Es × Fl) (s : S), p.2 = .nx → Q (p.1, .nx) s) : Rn (lw3 L0 (tb (k + 25)) [o0, some (.ref n), o2, o3, o4, o5, o6, o7, o8, o9, o10, o11, o12, o13, o14, o15, o16, o17, o18, o19, o20]) st Q := by
  unfold lw3
  simp only [run_pure, run_bind, run_fail, run_guard, run_ite, run_var, run_c, run_op, run_un, run_bOf, run_and, run_or, run_not, run_tst, run_andT, run_orT, run_notT, run_if, run_nilA, run_consA, run_tup, run_new, run_lst, run_call, run_callK, run_lm, run_sli, run_ptno, run_ptat, run_nx, run_ct, run_ret, run_drop, run_seq, run_asg, run_name, run_nilG, run_consG, run_tupG, run_par, run_aug, run_fn, run_forS, run_over, run_blM, run_notM, run_eqI, run_neI, run_eqB, run_neB, run_ltI, run_gtI, run_leI, run_geI, run_ofO, at0, at1, at2, run_ix0, run_ix1, run_ix2, run_sl1, run_seqT, run_lenT, run_addT, run_iaddT, run_addI, run_subI, run_rng, run_yes, run_sub, run_mulI, run_modI, run_fdivI, run_powI, run_intI, run_absI, run_seqR, run_listT, run_minI, run_negI, run_bAddT, List.getElem?_cons_zero, List.getElem?_cons_succ, List.set_cons_zero, List.set_cons_succ, if_true, if_false, Bool.false_eq_true, reduceIte, List.length_cons, List.length_nil, Bool.not_true, Bool.not_false]
  refine ⟨small (j := 5) (by decide), ?_⟩
  refine run_for (ds := (Pat.run 0 5).map .int) (fun i es s => ∃ p2 p3 p4 p5 p6 p7 p8 p9 p10 p11 p12 p13 p14 p15 p16 p17, es = [o0, some (.ref n), p2, p3, p4, p5, p6, p7, p8, p9, p10, p11, p12, p13, p14, p15, p16, p17, o18, o19, o20] ∧ Drw n g c (400 * i) s) (fun i es s _ => rng_at) ?_ ?_ _ _ _ _ ?_ ?_ ?_
  · rintro i d es s hd ⟨p2, p3, p4, p5, p6, p7, p8, p9, p10, p11, p12, p13, p14, p15, p16, p17, rfl, h1⟩
    have hi : i < 5 := by
      have := (List.getElem?_eq_some_iff.mp hd).1
      rwa [List.length_map, Pat.run_len] at this
    simp only [run_pure, run_bind, run_fail, run_guard, run_ite, run_var, run_c, run_op, run_un, run_bOf, run_and, run_or, run_not, run_tst, run_andT, run_orT, run_notT, run_if, run_nilA, run_consA, run_tup, run_new, run_lst, run_call, run_callK, run_lm, run_sli, run_ptno, run_ptat, run_nx, run_ct, run_ret, run_drop, run_seq, run_asg, run_name, run_nilG, run_consG, run_tupG, run_par, run_aug, run_fn, run_forS, run_over, run_blM, run_notM, run_eqI, run_neI, run_eqB, run_neB, run_ltI, run_gtI, run_leI, run_geI, run_ofO, at0, at1, at2, run_ix0, run_ix1, run_ix2, run_sl1, run_seqT, run_lenT, run_addT, run_iaddT, run_addI, run_subI, run_rng, run_yes, run_sub, run_mulI, run_modI, run_fdivI, run_powI, run_intI, run_absI, run_seqR, run_listT, run_minI, run_negI, run_bAddT, List.getElem?_cons_zero, List.getElem?_cons_succ, List.set_cons_zero, List.set_cons_succ, if_true, if_false, Bool.false_eq_true, reduceIte, List.length_cons, List.length_nil, Bool.not_true, Bool.not_false]
    have A := lap_ok k n g c (400 * i) s h1 (by omega) o0 (some d) p3 p4 p5 p6 p7 p8 p9 p10 p11 p12 p13 p14 p15 p16 p17 o18 o19 o20
    refine A _ fun f q3 q4 q5 q6 q7 q8 q9 q10 q11 q12 q13 q14 q15 q16 q17 s2 hf h2 => ?_
    rcases hf with rfl | rfl
    · exact ⟨_, _, _, _, _, _, _, _, _, _, _, _, _, _, _, _, rfl, h2⟩
    · exact ⟨_, _, _, _, _, _, _, _, _, _, _, _, _, _, _, _, rfl, h2⟩
  · rintro es s _
    exact hQ (es, .nx) s rfl
  · exact lt0 (by decide)
  · exact Nat.zero_le _
  · exact ⟨_, _, _, _, _, _, _, _, _, _, _, _, _, _, _, _, rfl, h⟩
theorem law_run (ns : List Int) (hl : ns.length ≤ 63) (hb : ∀ z ∈ ns, Builtin.Int.intBits z ≤ 1048576) : ∃ st, tab L0 40 .Flaw [.rol (ns.map .int)] [] = some (.bl true, st) := by
  have main : Rn (tb (39 + 1) .Flaw [.rol (ns.map .int)]) [] fun d s => d = .bl true := by
    rw [t_b_law, b_law_cut]
    simp only [run_pure, run_bind, run_fail, run_guard, run_ite, run_var, run_c, run_op, run_un, run_bOf, run_and, run_or, run_not, run_tst, run_andT, run_orT, run_notT, run_if, run_nilA, run_consA, run_tup, run_new, run_lst, run_call, run_callK, run_lm, run_sli, run_ptno, run_ptat, run_nx, run_ct, run_ret, run_drop, run_seq, run_asg, run_name, run_nilG, run_consG, run_tupG, run_par, run_aug, run_fn, run_forS, run_over, run_blM, run_notM, run_eqI, run_neI, run_eqB, run_neB, run_ltI, run_gtI, run_leI, run_geI, run_ofO, at0, at1, at2, run_ix0, run_ix1, run_ix2, run_sl1, run_seqT, run_lenT, run_addT, run_iaddT, run_addI, run_subI, run_rng, run_yes, run_sub, run_mulI, run_modI, run_fdivI, run_powI, run_intI, run_absI, run_seqR, run_listT, run_minI, run_negI, run_bAddT, List.getElem?_cons_zero, List.getElem?_cons_succ, List.set_cons_zero, List.set_cons_succ, if_true, if_false, Bool.false_eq_true, reduceIte, List.length_cons, List.length_nil, Bool.not_true, Bool.not_false]
    refine ⟨trivial, ?_⟩
    simp only [List.map_cons, List.map_nil, List.replicate, List.cons_append, List.nil_append]
    unfold lw1
    simp only [run_pure, run_bind, run_fail, run_guard, run_ite, run_var, run_c, run_op, run_un, run_bOf, run_and, run_or, run_not, run_tst, run_andT, run_orT, run_notT, run_if, run_nilA, run_consA, run_tup, run_new, run_lst, run_call, run_callK, run_lm, run_sli, run_ptno, run_ptat, run_nx, run_ct, run_ret, run_drop, run_seq, run_asg, run_name, run_nilG, run_consG, run_tupG, run_par, run_aug, run_fn, run_forS, run_over, run_blM, run_notM, run_eqI, run_neI, run_eqB, run_neB, run_ltI, run_gtI, run_leI, run_geI, run_ofO, at0, at1, at2, run_ix0, run_ix1, run_ix2, run_sl1, run_seqT, run_lenT, run_addT, run_iaddT, run_addI, run_subI, run_rng, run_yes, run_sub, run_mulI, run_modI, run_fdivI, run_powI, run_intI, run_absI, run_seqR, run_listT, run_minI, run_negI, run_bAddT, List.getElem?_cons_zero, List.getElem?_cons_succ, List.set_cons_zero, List.set_cons_succ, if_true, if_false, Bool.false_eq_true, reduceIte, List.length_cons, List.length_nil, Bool.not_true, Bool.not_false]
    have A := begun_ok 38 ns hl []
    refine A.mono fun d s ⟨n, g, c, e, h⟩ => ?_
    clear A
    subst e
    have L2 := law2 14 n s (some (.rol (ns.map .int))) none none none none none none none none none none none none none none none none none none none
    refine L2 _ fun ex => ?_
    clear L2
    dsimp only
    have L3 := law3 14 n g c (s ++ ex) (h.app ex) (some (.rol (ns.map .int))) none none none none none none none none none none none none none none none none none none none
    refine L3 _ fun p s2 hp => ?_
    clear L3
    dsimp only
    unfold lw4
    simp only [run_pure, run_bind, run_fail, run_guard, run_ite, run_var, run_c, run_op, run_un, run_bOf, run_and, run_or, run_not, run_tst, run_andT, run_orT, run_notT, run_if, run_nilA, run_consA, run_tup, run_new, run_lst, run_call, run_callK, run_lm, run_sli, run_ptno, run_ptat, run_nx, run_ct, run_ret, run_drop, run_seq, run_asg, run_name, run_nilG, run_consG, run_tupG, run_par, run_aug, run_fn, run_forS, run_over, run_blM, run_notM, run_eqI, run_neI, run_eqB, run_neB, run_ltI, run_gtI, run_leI, run_geI, run_ofO, at0, at1, at2, run_ix0, run_ix1, run_ix2, run_sl1, run_seqT, run_lenT, run_addT, run_iaddT, run_addI, run_subI, run_rng, run_yes, run_sub, run_mulI, run_modI, run_fdivI, run_powI, run_intI, run_absI, run_seqR, run_listT, run_minI, run_negI, run_bAddT, List.getElem?_cons_zero, List.getElem?_cons_succ, List.set_cons_zero, List.set_cons_succ, if_true, if_false, Bool.false_eq_true, reduceIte, List.length_cons, List.length_nil, Bool.not_true, Bool.not_false]
  obtain ⟨a, s, e, rfl⟩ := main.get
  exact ⟨s, e⟩
end K35

open PySem PySem.W PyProof.Rows in
set_option maxRecDepth 100000 in
set_option maxHeartbeats 0 in
theorem PySem.Challenge.cw_earlysettled_k35_whole_patterns_and_plac_holds : PySem.Challenge.rw_earlysettled_k35_whole_patterns_and_plac.Holds := by
  w_on; o_law; k_head; (case hw => w_witness2)
  k_fill
  refine Mx.walk_M (l := PySem.Challenge.rw_earlysettled_k35_whole_patterns_and_plac) (n := 63) (k := 42) (x := "script") (g := K35.tab K35.L0 40 .Flaw) rfl (by decide) rfl ⟨⟨rfl, by decide, by decide⟩, rfl⟩ (fun w h Y => PySem.W.km_in_of Y) ?F K35.law_run
  case F =>
    intro w mg fa h _ inK G hmg ft
    refine' K35.all_mk (k := 40) (L := K35.L0) inK G hmg (fun c P h1 => ft _ _ c P ?rec h1) ?a_is_pattern_within ?l_is_pattern_within ?c_is_pattern_within ?k_is_pattern_within ?a_is_pattern ?l_is_pattern ?c_is_pattern ?k_is_pattern ?a_places_of ?l_places_of ?c_places_of ?k_places_of ?a_joined_moves ?l_joined_moves ?c_joined_moves ?k_joined_moves ?a_moves_from ?l_moves_from ?c_moves_from ?k_moves_from ?a_moves_of ?l_moves_of ?c_moves_of ?k_moves_of ?a__law_begun ?l__law_begun ?c__law_begun ?k__law_begun ?a__law_mixed ?l__law_mixed ?c__law_mixed ?k__law_mixed ?a__law_draw ?l__law_draw ?c__law_draw ?k__law_draw ?a__law_pick ?l__law_pick ?c__law_pick ?k__law_pick ?a__law_plain ?l__law_plain ?c__law_plain ?k__law_plain ?a__law_is ?l__law_is ?c__law_is ?k__law_is ?a__law_some_pattern ?l__law_some_pattern ?c__law_some_pattern ?k__law_some_pattern ?a__law_hollow ?l__law_hollow ?c__law_hollow ?k__law_hollow ?a__law_rest ?l__law_rest ?c__law_rest ?k__law_rest ?a__law_behind_item ?l__law_behind_item ?c__law_behind_item ?k__law_behind_item ?a__law_left ?l__law_left ?c__law_left ?k__law_left ?a__law_items ?l__law_items ?c__law_items ?k__law_items ?a__law_numbered ?l__law_numbered ?c__law_numbered ?k__law_numbered ?a__law_takes ?l__law_takes ?c__law_takes ?k__law_takes ?a__law_goes ?l__law_goes ?c__law_goes ?k__law_goes ?a__law_deep ?l__law_deep ?c__law_deep ?k__law_deep ?a__law_due ?l__law_due ?c__law_due ?k__law_due ?a_law ?l_law ?c_law ?k_law ?n_abs ?n_all ?n_dict ?n_int ?n_isinstance ?n_len ?n_list ?n_max ?n_min ?n_range ?n_repr ?n_set ?n_sorted ?n_str ?n_tuple ?n_zip ?x_MOST_ITEMS ?x_MOST_NESTED ?m_PARTS ?o_PARTS ?y_PARTS ?s_PARTS ?e_PARTS_0 ?e_PARTS_1 ?e_PARTS_2 ?e_PARTS_3 ?e_PARTS_4 ?e_PARTS_5 ?lc1 ?v11 ?tno
    (case a_is_pattern_within => k_is)
    (case l_is_pattern_within => k_is)
    (case c_is_pattern_within => k_is)
    (case k_is_pattern_within => k_is)
    (case a_is_pattern => k_is)
    (case l_is_pattern => k_is)
    (case c_is_pattern => k_is)
    (case k_is_pattern => k_is)
    (case a_places_of => k_is)
    (case l_places_of => k_is)
    (case c_places_of => k_is)
    (case k_places_of => k_is)
    (case a_joined_moves => k_is)
    (case l_joined_moves => k_is)
    (case c_joined_moves => k_is)
    (case k_joined_moves => k_is)
    (case a_moves_from => k_is)
    (case l_moves_from => k_is)
    (case c_moves_from => k_is)
    (case k_moves_from => k_is)
    (case a_moves_of => k_is)
    (case l_moves_of => k_is)
    (case c_moves_of => k_is)
    (case k_moves_of => k_is)
    (case a__law_begun => k_is)
    (case l__law_begun => k_is)
    (case c__law_begun => k_is)
    (case k__law_begun => k_is)
    (case a__law_mixed => k_is)
    (case l__law_mixed => k_is)
    (case c__law_mixed => k_is)
    (case k__law_mixed => k_is)
    (case a__law_draw => k_is)
    (case l__law_draw => k_is)
    (case c__law_draw => k_is)
    (case k__law_draw => k_is)
    (case a__law_pick => k_is)
    (case l__law_pick => k_is)
    (case c__law_pick => k_is)
    (case k__law_pick => k_is)
    (case a__law_plain => k_is)
    (case l__law_plain => k_is)
    (case c__law_plain => k_is)
    (case k__law_plain => k_is)
    (case a__law_is => k_is)
    (case l__law_is => k_is)
    (case c__law_is => k_is)
    (case k__law_is => k_is)
    (case a__law_some_pattern => k_is)
    (case l__law_some_pattern => k_is)
    (case c__law_some_pattern => k_is)
    (case k__law_some_pattern => k_is)
    (case a__law_hollow => k_is)
    (case l__law_hollow => k_is)
    (case c__law_hollow => k_is)
    (case k__law_hollow => k_is)
    (case a__law_rest => k_is)
    (case l__law_rest => k_is)
    (case c__law_rest => k_is)
    (case k__law_rest => k_is)
    (case a__law_behind_item => k_is)
    (case l__law_behind_item => k_is)
    (case c__law_behind_item => k_is)
    (case k__law_behind_item => k_is)
    (case a__law_left => k_is)
    (case l__law_left => k_is)
    (case c__law_left => k_is)
    (case k__law_left => k_is)
    (case a__law_items => k_is)
    (case l__law_items => k_is)
    (case c__law_items => k_is)
    (case k__law_items => k_is)
    (case a__law_numbered => k_is)
    (case l__law_numbered => k_is)
    (case c__law_numbered => k_is)
    (case k__law_numbered => k_is)
    (case a__law_takes => k_is)
    (case l__law_takes => k_is)
    (case c__law_takes => k_is)
    (case k__law_takes => k_is)
    (case a__law_goes => k_is)
    (case l__law_goes => k_is)
    (case c__law_goes => k_is)
    (case k__law_goes => k_is)
    (case a__law_deep => k_is)
    (case l__law_deep => k_is)
    (case c__law_deep => k_is)
    (case k__law_deep => k_is)
    (case a__law_due => k_is)
    (case l__law_due => k_is)
    (case c__law_due => k_is)
    (case k__law_due => k_is)
    (case a_law => k_is)
    (case l_law => k_is)
    (case c_law => k_is)
    (case k_law => k_is)
    (case n_abs => k_is)
    (case n_all => k_is)
    (case n_dict => k_is)
    (case n_int => k_is)
    (case n_isinstance => k_is)
    (case n_len => k_is)
    (case n_list => k_is)
    (case n_max => k_is)
    (case n_min => k_is)
    (case n_range => k_is)
    (case n_repr => k_is)
    (case n_set => k_is)
    (case n_sorted => k_is)
    (case n_str => k_is)
    (case n_tuple => k_is)
    (case n_zip => k_is)
    (case x_MOST_ITEMS => k_is)
    (case x_MOST_NESTED => k_is)
    (case m_PARTS => k_is)
    (case o_PARTS => k_is)
    (case y_PARTS => exact ⟨⟨_, _, rfl, rfl⟩, ⟨_, _, rfl, rfl⟩, ⟨_, _, rfl, rfl⟩, ⟨_, _, rfl, rfl⟩, ⟨_, _, rfl, rfl⟩, trivial⟩)
    (case s_PARTS => rfl)
    (case e_PARTS_0 => k_is)
    (case e_PARTS_1 => k_is)
    (case e_PARTS_2 => k_is)
    (case e_PARTS_3 => k_is)
    (case e_PARTS_4 => k_is)
    (case e_PARTS_5 => k_is)
    (case lc1 => k_is)
    (case v11 => rfl)
    (case tno => first | rfl | kernel_rfl)
    (case rec => rfl)
