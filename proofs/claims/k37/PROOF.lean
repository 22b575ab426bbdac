import PyProof.Rows.All
import Wide.All
import OpenK.AllK
import Wide.FinOn
import HandS.ForMost
import HandS.TupAny
import HandS.TupLe
import HandS.Zip
import HandS.Strs
import HandS.IsInst
import HandS.Small
import HandS.Rev
import HandS.SortInts
import HandS.Lambda
import HandS.Deep
import HandS.TupMul
import HandS.More
import HandS.NoneIn
import HandS.TryOnly
import HandS.Style
import HandS.Words
import PyProof.ReprRoads
import HandS.SetFor
import PyProof.TupleOps
import PyProof.DictUpdate
import PyProof.EvalArms
import KE.SortKeyHeap
import HandS.SortKw
import HandS.EndTab
import HandS.TupSets
import KE.KeyNested
import KE.SortCalls
import KE.KUnpackStar
import PyProof.StrOps2
import PyProof.Rows.StrMeet
import PySem.Challenge.RW_earlysettled_k37_bounds_of_books
set_option Elab.async false
set_option linter.all false
set_option maxRecDepth 100000
set_option maxHeartbeats 4000000
/-! Mx1: data as trees, a store of the lists and dicts that a run makes, and how they lie in the abstract heap. -/
namespace Mx
open PySem PySem.Spec L2

/-- the built-in classes that isinstance is asked for -/
inductive Ty where
  | non | bool | int | str | tuple | list | dict
  deriving DecidableEq, Inhabited
def Ty.name : Ty → String
  | .non => "NoneType"
  | .bool => "bool"
  | .int => "int"
  | .str => "str"
  | .tuple => "tuple"
  | .list => "list"
  | .dict => "dict"
/-- a value: tuples made on the way (tup) and of the module (rot) are trees, rol a list that nobody writes, ref a place of the store -/
inductive D where
  | non | bl (b : Bool) | int (i : Int) | str (x : Str) | tup (ds : List D) | rot (ds : List D) | rol (ds : List D) | ref (n : Nat) | ty (t : Ty)
  deriving Inhabited

/-- what stands at a place of the store -/
inductive O where
  | lst (ds : List D)
  | dic (kvs : List (Key × D))
  | dit (kvs : List (List Key × D))
  | dif (kvs : List (Key × D))
  deriving Inhabited

abbrev S := List O
def M (α : Type) := S → Option (α × S)
instance : Monad M where
  pure a := fun s => some (a, s)
  bind m f := fun s => match m s with
    | none => none
    | some (a, s') => f a s'
def fail {α : Type} : M α := fun _ => none
abbrev Es := List (Option D)

/-! ### how data lie in the heap -/
/-- a list that is read alone: locked, or of the module -/
def RoL (K : PySem.W.Frag) (H : Hp) (a : Addr) (xs : List V) : Prop :=
  (∃ o, H a = some (.frz o (.lst xs))) ∨
    ∃ (o : Obj) (its : Array Value) (n : Nat), K.lookup a = some o ∧ o.cls = .type "list" ∧ o.dict = none ∧ o.data = .seq its n ∧ its.size ≤ sizeLine ∧ Vals xs its.toList
theorem RoL.sq {K : PySem.W.Frag} {H : Hp} {a : Addr} {xs : List V} (h : RoL K H a xs) : SqL K H a xs := by
  rcases h with ⟨o, h⟩ | h
  · exact .inl (.inr ⟨o, h⟩)
  · exact .inr h

section
variable (K : PySem.W.Frag) (ρ : List Addr) (H : Hp)
mutual
def DR : D → V → Prop
  | .non, v => v = .non
  | .bl b, v => v = .bl b
  | .int i, v => v = .int i
  | .str x, v => v = .str x
  | .ty t, v => v = .ty t.name
  | .ref n, v => ∃ a, v = .ref a ∧ ρ[n]? = some a
  | .tup ds, v => ∃ a vs, v = .ref a ∧ H a = some (.tup vs) ∧ DRs ds vs
  | .rot ds, v => ∃ a vs, v = .ref a ∧ SqT K H a vs ∧ DRs ds vs
  | .rol ds, v => ∃ a vs, v = .ref a ∧ RoL K H a vs ∧ DRs ds vs
def DRs : List D → List V → Prop
  | [], vs => vs = []
  | d :: ds, vs => ∃ v r, vs = v :: r ∧ DR d v ∧ DRs ds r
end
def KR {κ : Type} : List (κ × D) → List (κ × V) → Prop
  | [], ws => ws = []
  | p :: ps, ws => ∃ q r, ws = q :: r ∧ p.1 = q.1 ∧ DR K ρ H p.2 q.2 ∧ KR ps r
def OR (a : Addr) : O → Prop
  | .lst ds => ∃ vs, H a = some (.lst vs) ∧ DRs K ρ H ds vs
  | .dic kvs => ∃ ws, H a = some (.dK ws) ∧ KR K ρ H kvs ws
  | .dit kvs => ∃ ws, H a = some (.dT ws) ∧ KR K ρ H kvs ws
  | .dif kvs => ∃ ob ws, H a = some (.frz ob (.dK ws)) ∧ KR K ρ H kvs ws
/-- the store stands as it is told; the tables of code objects too -/
structure Rel (T : List (Addr × Str)) (K : PySem.W.Frag) (ρ : List Addr) (H : Hp) (st : S) : Prop where
  tab : LamX.Tabs T H
  len : ρ.length = st.length
  nd : ρ.Nodup
  obj : ∀ (i : Nat) (a : Addr) (o : O), ρ[i]? = some a → st[i]? = some o → OR K ρ H a o
/-- the names' values -/
def ER (es : Es) (σ : St) : Prop := es.length = σ.length ∧ ∀ (i : Nat) (d : D), es[i]? = some (some d) → ∃ v, σ[i]? = some (some v) ∧ DR K ρ H d v
end
/-- a later world: older objects that are not of the store stand as they stood -/
structure Ext (ρ : List Addr) (H : Hp) (ρ' : List Addr) (H' : Hp) : Prop where
  pre : ρ <+: ρ'
  new : ∀ b ∈ ρ', b ∈ ρ ∨ H b = none
  keep : ∀ a o, H a = some o → a ∉ ρ → (∀ ps, o ≠ .tbl ps) → H' a = some o
  tbl : ∀ a ps, H a = some (.tbl ps) → ∃ more, H' a = some (.tbl (ps ++ more))
  frz : ∀ a o u, H a = some (.frz o u) → H' a = some (.frz o u)
theorem tbl_same {H : Hp} {a : Addr} {ps : Array Value} (h : H a = some (.tbl ps)) : ∃ more, H a = some (.tbl (ps ++ more)) := ⟨#[], by rw [h]; simp⟩
theorem Ext.refl (ρ : List Addr) (H : Hp) : Ext ρ H ρ H := ⟨List.prefix_refl _, fun _ h => .inl h, fun _ _ h _ _ => h, fun _ _ h => tbl_same h, fun _ _ _ h => h⟩
theorem Ext.there {ρ ρ' : List Addr} {H H' : Hp} (e : Ext ρ H ρ' H') {a : Addr} {o : HO} (h : H a = some o) (hn : a ∉ ρ) : ∃ o', H' a = some o' := by
  by_cases q : ∃ ps, o = .tbl ps
  · obtain ⟨ps, rfl⟩ := q
    obtain ⟨m, z⟩ := e.tbl a ps h
    exact ⟨_, z⟩
  · exact ⟨o, e.keep a o h hn fun ps z => q ⟨ps, z⟩⟩
theorem Ext.trans {ρ ρ1 ρ2 : List Addr} {H H1 H2 : Hp} (a : Ext ρ H ρ1 H1) (b : Ext ρ1 H1 ρ2 H2) : Ext ρ H ρ2 H2 := by
  refine ⟨a.pre.trans b.pre, fun c hc => ?_, fun c o h hn ht => ?_, fun c ps h => ?_, fun c o u h => b.frz c o u (a.frz c o u h)⟩
  · by_cases hr : c ∈ ρ
    · exact .inl hr
    · right
      cases q : H c with
      | none => rfl
      | some o =>
        obtain ⟨o1, q1⟩ := a.there q hr
        rcases b.new c hc with z | z
        · rcases a.new c z with z | z
          · exact absurd z hr
          · rw [q] at z; cases z
        · rw [q1] at z; cases z
  · refine b.keep c o (a.keep c o h hn ht) (fun z => ?_) ht
    rcases a.new c z with z | z
    · exact hn z
    · rw [h] at z; cases z
  · obtain ⟨m, h1⟩ := a.tbl c ps h
    obtain ⟨m2, h2⟩ := b.tbl c _ h1
    exact ⟨m ++ m2, by rw [h2, Array.append_assoc]⟩
theorem Ext.get {ρ ρ' : List Addr} {H H' : Hp} (e : Ext ρ H ρ' H') {i : Nat} {a : Addr} (h : ρ[i]? = some a) : ρ'[i]? = some a := by
  obtain ⟨t, rfl⟩ := e.pre
  have hi := (List.getElem?_eq_some_iff.mp h).1
  rw [List.getElem?_append_left hi]; exact h

section
variable {T : List (Addr × Str)} {K : PySem.W.Frag} {ρ ρ' : List Addr} {H H' : Hp} {st st' : S}
/-- what the store's places hold -/
def StO (u : HO) : Prop := (∃ xs, u = .lst xs) ∨ (∃ ws, u = .dK ws) ∨ (∃ ws, u = .dT ws) ∨ ∃ ob ws, u = .frz ob (.dK ws)
theorem OR.some {a : Addr} {o : O} (h : OR K ρ H a o) : ∃ u, H a = some u ∧ StO u := by
  cases o with
  | lst ds => obtain ⟨vs, h, _⟩ := h; exact ⟨_, h, .inl ⟨_, rfl⟩⟩
  | dic kvs => obtain ⟨ws, h, _⟩ := h; exact ⟨_, h, .inr (.inl ⟨_, rfl⟩)⟩
  | dit kvs => obtain ⟨ws, h, _⟩ := h; exact ⟨_, h, .inr (.inr (.inl ⟨_, rfl⟩))⟩
  | dif kvs => obtain ⟨ob, ws, h, _⟩ := h; exact ⟨_, h, .inr (.inr (.inr ⟨_, _, rfl⟩))⟩
theorem Rel.at (R : Rel T K ρ H st) {b : Addr} (h : b ∈ ρ) : ∃ u, H b = some u ∧ StO u := by
  obtain ⟨i, hi, e⟩ := List.getElem_of_mem h
  have e1 : ρ[i]? = some b := by rw [List.getElem?_eq_getElem hi, e]
  have hi2 : i < st.length := by rw [← R.len]; exact hi
  exact (R.obj i b st[i] e1 (List.getElem?_eq_getElem hi2)).some
theorem Rel.tupNot (R : Rel T K ρ H st) {a : Addr} {vs : List V} (h : H a = some (.tup vs)) : a ∉ ρ := fun z => by
  obtain ⟨u, e, q⟩ := R.at z
  rw [h] at e; cases e
  rcases q with ⟨_, q⟩ | ⟨_, q⟩ | ⟨_, q⟩ | ⟨_, _, q⟩ <;> cases q
theorem Rel.frzNot (R : Rel T K ρ H st) {a : Addr} {o : Obj} {u : HO} (h : H a = some (.frz o u)) (n : ∀ ws, u ≠ .dK ws) : a ∉ ρ := fun z => by
  obtain ⟨u, e, q⟩ := R.at z
  rw [h] at e; cases e
  rcases q with ⟨_, q⟩ | ⟨_, q⟩ | ⟨_, q⟩ | ⟨_, ws, q⟩
  · cases q
  · cases q
  · cases q
  · cases q; exact n ws rfl
theorem SqT.ext (R : Rel T K ρ H st) (e : Ext ρ H ρ' H') {a : Addr} {vs : List V} (h : SqT K H a vs) : SqT K H' a vs := by
  rcases h with (h | ⟨o, h⟩) | h
  · exact .inl (.inl (e.keep _ _ h (R.tupNot h) (fun _ z => nomatch z)))
  · exact .inl (.inr ⟨o, e.keep _ _ h (R.frzNot h fun _ z => nomatch z) (fun _ z => nomatch z)⟩)
  · exact .inr h
theorem RoL.ext (R : Rel T K ρ H st) (e : Ext ρ H ρ' H') {a : Addr} {vs : List V} (h : RoL K H a vs) : RoL K H' a vs := by
  rcases h with ⟨o, h⟩ | h
  · exact .inl ⟨o, e.keep _ _ h (R.frzNot h fun _ z => nomatch z) (fun _ z => nomatch z)⟩
  · exact .inr h
mutual
theorem DR.ext (R : Rel T K ρ H st) (e : Ext ρ H ρ' H') : ∀ (d : D) (v : V), DR K ρ H d v → DR K ρ' H' d v
  | .non, _, h => by rw [DR] at h ⊢; exact h
  | .bl _, _, h => by rw [DR] at h ⊢; exact h
  | .int _, _, h => by rw [DR] at h ⊢; exact h
  | .str _, _, h => by rw [DR] at h ⊢; exact h
  | .ty _, _, h => by rw [DR] at h ⊢; exact h
  | .ref n, _, h => by rw [DR] at h ⊢; obtain ⟨a, h1, h2⟩ := h; exact ⟨a, h1, e.get h2⟩
  | .tup ds, _, h => by rw [DR] at h ⊢; obtain ⟨a, vs, h1, h2, h3⟩ := h; exact ⟨a, vs, h1, e.keep _ _ h2 (R.tupNot h2) (fun _ z => nomatch z), DRs.ext R e ds vs h3⟩
  | .rot ds, _, h => by rw [DR] at h ⊢; obtain ⟨a, vs, h1, h2, h3⟩ := h; exact ⟨a, vs, h1, SqT.ext R e h2, DRs.ext R e ds vs h3⟩
  | .rol ds, _, h => by rw [DR] at h ⊢; obtain ⟨a, vs, h1, h2, h3⟩ := h; exact ⟨a, vs, h1, RoL.ext R e h2, DRs.ext R e ds vs h3⟩
theorem DRs.ext (R : Rel T K ρ H st) (e : Ext ρ H ρ' H') : ∀ (ds : List D) (vs : List V), DRs K ρ H ds vs → DRs K ρ' H' ds vs
  | [], _, h => by rw [DRs] at h ⊢; exact h
  | d :: ds, _, h => by
    rw [DRs] at h ⊢
    obtain ⟨v, r, h1, h2, h3⟩ := h
    exact ⟨v, r, h1, DR.ext R e d v h2, DRs.ext R e ds r h3⟩
end
theorem KR.ext {κ : Type} (R : Rel T K ρ H st) (e : Ext ρ H ρ' H') : ∀ (ps : List (κ × D)) (ws : List (κ × V)), KR K ρ H ps ws → KR K ρ' H' ps ws
  | [], _, h => h
  | p :: ps, _, ⟨q, r, h1, h2, h3, h4⟩ => ⟨q, r, h1, h2, DR.ext R e _ _ h3, KR.ext R e ps r h4⟩
theorem ER.ext (R : Rel T K ρ H st) (e : Ext ρ H ρ' H') {es : Es} {σ : St} (h : ER K ρ H es σ) : ER K ρ' H' es σ :=
  ⟨h.1, fun i d hi => let ⟨v, h1, h2⟩ := h.2 i d hi; ⟨v, h1, DR.ext R e d v h2⟩⟩
theorem ER.set {es : Es} {σ : St} {i : Nat} {d : D} {v : V} (h : ER K ρ H es σ) (hd : DR K ρ H d v) : ER K ρ H (es.set i (some d)) (σ.set i (some v)) := by
  refine ⟨by rw [List.length_set, List.length_set]; exact h.1, fun j e hj => ?_⟩
  by_cases hij : i = j
  · subst hij
    have hl : i < es.length := by
      have := (List.getElem?_eq_some_iff.mp hj).1
      rw [List.length_set] at this; exact this
    rw [List.getElem?_set_self hl] at hj
    have hj' : d = e := Option.some.inj (Option.some.inj hj)
    subst hj'
    exact ⟨v, List.getElem?_set_self (by rw [← h.1]; exact hl), hd⟩
  · rw [List.getElem?_set_ne hij] at hj
    obtain ⟨w, h1, h2⟩ := h.2 j e hj
    exact ⟨w, by rw [List.getElem?_set_ne hij]; exact h1, h2⟩
theorem ER.clear {es : Es} {σ : St} {i : Nat} (h : ER K ρ H es σ) : ER K ρ H (es.set i none) (σ.set i none) := by
  refine ⟨by rw [List.length_set, List.length_set]; exact h.1, fun j e hj => ?_⟩
  by_cases hij : i = j
  · subst hij
    have hl : i < es.length := by
      have := (List.getElem?_eq_some_iff.mp hj).1
      rw [List.length_set] at this; exact this
    rw [List.getElem?_set_self hl] at hj
    cases Option.some.inj hj
  · rw [List.getElem?_set_ne hij] at hj
    obtain ⟨w, h1, h2⟩ := h.2 j e hj
    exact ⟨w, by rw [List.getElem?_set_ne hij]; exact h1, h2⟩
theorem DRs.length : ∀ {ds : List D} {vs : List V}, DRs K ρ H ds vs → vs.length = ds.length
  | [], _, h => by rw [DRs] at h; subst h; rfl
  | d :: ds, _, h => by
    rw [DRs] at h
    obtain ⟨v, r, rfl, h2, h3⟩ := h
    simp [DRs.length h3]
theorem DRs.get : ∀ {ds : List D} {vs : List V} {i : Nat} {d : D}, DRs K ρ H ds vs → ds[i]? = some d → ∃ v, vs[i]? = some v ∧ DR K ρ H d v
  | [], _, _, _, _, e => by simp at e
  | d :: ds, _, 0, _, h, e => by
    rw [DRs] at h
    obtain ⟨v, r, rfl, h2, h3⟩ := h
    simp at e; subst e
    exact ⟨v, rfl, h2⟩
  | d :: ds, _, i + 1, x, h, e => by
    rw [DRs] at h
    obtain ⟨v, r, rfl, h2, h3⟩ := h
    obtain ⟨w, e1, e2⟩ := DRs.get (i := i) (d := x) h3 (by simpa using e)
    exact ⟨w, by simpa using e1, e2⟩
theorem DRs.append : ∀ {ds es : List D} {vs ws : List V}, DRs K ρ H ds vs → DRs K ρ H es ws → DRs K ρ H (ds ++ es) (vs ++ ws)
  | [], _, _, _, h, g => by rw [DRs] at h; subst h; exact g
  | d :: ds, _, _, _, h, g => by
    rw [DRs] at h
    obtain ⟨v, r, rfl, h2, h3⟩ := h
    show DRs K ρ H (d :: (ds ++ _)) (v :: (r ++ _))
    rw [DRs]
    exact ⟨v, _, rfl, h2, DRs.append h3 g⟩
theorem DRs.take : ∀ {ds : List D} {vs : List V} (n : Nat), DRs K ρ H ds vs → DRs K ρ H (ds.take n) (vs.take n)
  | _, _, 0, _ => by simp [DRs]
  | [], _, n + 1, h => by rw [DRs] at h; subst h; simp [DRs]
  | d :: ds, _, n + 1, h => by
    rw [DRs] at h
    obtain ⟨v, r, rfl, h2, h3⟩ := h
    rw [List.take_succ_cons, List.take_succ_cons, DRs]
    exact ⟨v, _, rfl, h2, DRs.take n h3⟩
theorem DRs.drop : ∀ {ds : List D} {vs : List V} (n : Nat), DRs K ρ H ds vs → DRs K ρ H (ds.drop n) (vs.drop n)
  | _, _, 0, h => h
  | [], _, n + 1, h => by rw [DRs] at h; subst h; simp [DRs]
  | d :: ds, _, n + 1, h => by
    rw [DRs] at h
    obtain ⟨v, r, rfl, h2, h3⟩ := h
    exact DRs.drop n h3
theorem DRs.nil : DRs K ρ H [] [] := by simp [DRs]
theorem DRs.cons {d : D} {ds : List D} {v : V} {vs : List V} (h : DR K ρ H d v) (g : DRs K ρ H ds vs) : DRs K ρ H (d :: ds) (v :: vs) := by
  rw [DRs]; exact ⟨v, vs, rfl, h, g⟩

/-! ### new and changed objects -/
theorem Ext.fresh {p : Addr} {u : HO} (h : H p = none) : Ext ρ H ρ (upd H p u) :=
  ⟨List.prefix_refl _, fun _ h => .inl h, fun a o q _ _ => by rw [upd_ne (ne_of_none q h)]; exact q, fun a ps q => by rw [upd_ne (ne_of_none q h)]; exact tbl_same q, fun a o u q => by rw [upd_ne (ne_of_none q h)]; exact q⟩
theorem Ext.tup {p : Addr} {vs : List V} (h : H p = none) : Ext ρ H ρ (upd H p (.tup vs)) := Ext.fresh h
theorem Ext.new' {p : Addr} {u : HO} (h : H p = none) : Ext ρ H (ρ ++ [p]) (upd H p u) := by
  refine ⟨List.prefix_append _ _, fun b hb => ?_, (Ext.fresh (ρ := ρ) h).keep, (Ext.fresh (ρ := ρ) h).tbl, (Ext.fresh (ρ := ρ) h).frz⟩
  rcases List.mem_append.mp hb with z | z
  · exact .inl z
  · have : b = p := by simpa using z
    subst this; exact .inr h
theorem StO.notTbl {u : HO} (h : StO u) : ∀ ps, u ≠ .tbl ps := fun ps z => by
  subst z
  rcases h with ⟨_, q⟩ | ⟨_, q⟩ | ⟨_, q⟩ | ⟨_, _, q⟩ <;> cases q
theorem StO.notCode {u : HO} (h : StO u) (c : Addr) (q : Str) : u ≠ LamX.CodeO c q := fun z => by
  unfold LamX.CodeO at z
  subst z
  rcases h with ⟨_, q⟩ | ⟨_, q⟩ | ⟨_, q⟩ | ⟨_, _, q⟩ <;> cases q
theorem Tabs.mv (t : LamX.Tabs T H) (e : ∀ b u, H b = some u → ¬ StO u → H' b = some u) : LamX.Tabs T H' := fun p hp => by
  obtain ⟨ps, h1, h2, h3⟩ := t p hp
  refine ⟨ps, e _ _ h1 fun z => z.notTbl ps rfl, h2, fun pos cv hc => ?_⟩
  obtain ⟨c, e1, e2⟩ := h3 pos cv hc
  exact ⟨c, e1, e _ _ e2 fun z => z.notCode _ _ rfl⟩
theorem Tabs.fresh {p : Addr} {u : HO} (t : LamX.Tabs T H) (h : H p = none) : LamX.Tabs T (upd H p u) := Tabs.mv t fun b w e _ => by rw [upd_ne (ne_of_none e h)]; exact e
theorem Tabs.put {p : Addr} {u v : HO} (t : LamX.Tabs T H) (h : H p = some v) (hv : StO v) : LamX.Tabs T (upd H p u) := Tabs.mv t fun b w e n => by
  rw [upd_ne (fun z => by subst z; rw [h] at e; cases e; exact n hv)]; exact e
theorem OR.ext (R : Rel T K ρ H st) (e : Ext ρ H ρ' H') {a : Addr} {o : O} (h : OR K ρ H a o) (hk : H' a = H a) : OR K ρ' H' a o := by
  cases o with
  | lst ds => obtain ⟨vs, h, g⟩ := h; exact ⟨vs, hk.trans h, DRs.ext R e _ _ g⟩
  | dic kvs => obtain ⟨ws, h, g⟩ := h; exact ⟨ws, hk.trans h, KR.ext R e _ _ g⟩
  | dit kvs => obtain ⟨ws, h, g⟩ := h; exact ⟨ws, hk.trans h, KR.ext R e _ _ g⟩
  | dif kvs => obtain ⟨ob, ws, h, g⟩ := h; exact ⟨ob, ws, hk.trans h, KR.ext R e _ _ g⟩
/-- a new tuple -/
theorem Rel.tup (R : Rel T K ρ H st) {p : Addr} {vs : List V} (h : H p = none) : Rel T K ρ (upd H p (.tup vs)) st := by
  refine ⟨Tabs.fresh R.tab h, R.len, R.nd, fun i a o hi ho => ?_⟩
  have q := R.obj i a o hi ho
  obtain ⟨u, hu, _⟩ := q.some
  exact q.ext R (Ext.tup h) (upd_ne (ne_of_none hu h))
/-- a new object of the store -/
theorem Rel.push (R : Rel T K ρ H st) {p : Addr} {u : HO} {o : O} (h : H p = none) (ho : ∀ H', H' p = some u → Ext ρ H (ρ ++ [p]) H' → OR K (ρ ++ [p]) H' p o) : Rel T K (ρ ++ [p]) (upd H p u) (st ++ [o]) := by
  have hp : p ∉ ρ := fun z => by
    obtain ⟨u, e, _⟩ := R.at z
    rw [h] at e; cases e
  refine ⟨Tabs.fresh R.tab h, by rw [List.length_append, List.length_append, R.len]; rfl, ?_, fun i a x hi hx => ?_⟩
  · rw [List.nodup_append]
    refine ⟨R.nd, by simp, fun a ha b hb e => ?_⟩
    have : b = p := by simpa using hb
    subst this; subst e; exact hp ha
  · by_cases hl : i < ρ.length
    · rw [List.getElem?_append_left hl] at hi
      rw [List.getElem?_append_left (by rw [← R.len]; exact hl)] at hx
      have q := R.obj i a x hi hx
      obtain ⟨w, hw, _⟩ := q.some
      exact q.ext R (Ext.new' h) (upd_ne (ne_of_none hw h))
    · have hle : ρ.length ≤ i := Nat.le_of_not_lt hl
      rw [List.getElem?_append_right hle] at hi
      rw [List.getElem?_append_right (by rw [← R.len]; exact hle)] at hx
      have hi0 : i - ρ.length = 0 := by
        have := (List.getElem?_eq_some_iff.mp hi).1
        simp at this; omega
      have hx0 : i - st.length = 0 := by rw [← R.len]; exact hi0
      rw [hi0] at hi
      rw [hx0] at hx
      simp at hi hx
      subst hi; subst hx
      exact ho _ upd_same (Ext.new' h)
/-- an object of the store changed -/
theorem Ext.put (R : Rel T K ρ H st) {i : Nat} {a : Addr} {u : HO} (hi : ρ[i]? = some a) (nf : ∀ o v, H a ≠ some (.frz o v)) : Ext ρ H ρ (upd H a u) :=
  ⟨List.prefix_refl _, fun _ h => .inl h, fun b o q hb _ => by rw [upd_ne (fun e => hb (by rw [e]; exact List.mem_of_getElem? hi))]; exact q, fun b ps q => by
    obtain ⟨u, e, z⟩ := R.at (List.mem_of_getElem? hi)
    rw [upd_ne (fun y => by subst y; rw [q] at e; cases e; exact z.notTbl ps rfl)]
    exact tbl_same q, fun b o v q => by rw [upd_ne (fun z => nf o v (by rw [← z]; exact q))]; exact q⟩
theorem Rel.put (R : Rel T K ρ H st) {i : Nat} {a : Addr} {u : HO} {o : O} (hi : ρ[i]? = some a) (nf : ∀ o v, H a ≠ some (.frz o v)) (ho : ∀ H', H' a = some u → Ext ρ H ρ H' → OR K ρ H' a o) : Rel T K ρ (upd H a u) (st.set i o) := by
  have il : i < ρ.length := (List.getElem?_eq_some_iff.mp hi).1
  obtain ⟨u0, hu0, z0⟩ := R.at (List.mem_of_getElem? hi)
  refine ⟨Tabs.put R.tab hu0 z0, by rw [List.length_set]; exact R.len, R.nd, fun j b x hj hx => ?_⟩
  by_cases e : i = j
  · subst e
    rw [hi] at hj; cases hj
    rw [List.getElem?_set_self (by rw [← R.len]; exact il)] at hx
    cases hx
    exact ho _ upd_same (Ext.put R hi nf)
  · rw [List.getElem?_set_ne e] at hx
    have q := R.obj j b x hj hx
    refine q.ext R (Ext.put R hi nf) (upd_ne fun z => ?_)
    subst z
    have jl : j < ρ.length := (List.getElem?_eq_some_iff.mp hj).1
    have e1 : ρ[i] = b := by rw [List.getElem?_eq_getElem il] at hi; exact Option.some.inj hi
    have e2 : ρ[j] = b := by rw [List.getElem?_eq_getElem jl] at hj; exact Option.some.inj hj
    exact e ((List.getElem_inj R.nd).mp (e1.trans e2.symm))
theorem Rel.lst (R : Rel T K ρ H st) {n : Nat} {v : V} {ds : List D} (hv : DR K ρ H (.ref n) v) (hs : st[n]? = some (.lst ds)) : ∃ a vs, v = .ref a ∧ ρ[n]? = some a ∧ H a = some (.lst vs) ∧ DRs K ρ H ds vs := by
  rw [DR] at hv
  obtain ⟨a, h1, h2⟩ := hv
  obtain ⟨vs, h3, h4⟩ := R.obj n a _ h2 hs
  exact ⟨a, vs, h1, h2, h3, h4⟩
theorem Rel.dic (R : Rel T K ρ H st) {n : Nat} {v : V} {kvs : List (Key × D)} (hv : DR K ρ H (.ref n) v) (hs : st[n]? = some (.dic kvs)) : ∃ a ws, v = .ref a ∧ ρ[n]? = some a ∧ H a = some (.dK ws) ∧ KR K ρ H kvs ws := by
  rw [DR] at hv
  obtain ⟨a, h1, h2⟩ := hv
  obtain ⟨vs, h3, h4⟩ := R.obj n a _ h2 hs
  exact ⟨a, vs, h1, h2, h3, h4⟩
theorem Rel.dit (R : Rel T K ρ H st) {n : Nat} {v : V} {kvs : List (List Key × D)} (hv : DR K ρ H (.ref n) v) (hs : st[n]? = some (.dit kvs)) : ∃ a ws, v = .ref a ∧ ρ[n]? = some a ∧ H a = some (.dT ws) ∧ KR K ρ H kvs ws := by
  rw [DR] at hv
  obtain ⟨a, h1, h2⟩ := hv
  obtain ⟨vs, h3, h4⟩ := R.obj n a _ h2 hs
  exact ⟨a, vs, h1, h2, h3, h4⟩
/-- the pairs of a dict with plain keys -/
def kvsOf : Option O → Option (List (Key × D))
  | some (.dic kvs) => some kvs
  | some (.dif kvs) => some kvs
  | _ => none
theorem Rel.rdk (R : Rel T K ρ H st) {n : Nat} {v : V} {kvs : List (Key × D)} (hv : DR K ρ H (.ref n) v) (hs : kvsOf st[n]? = some kvs) : ∃ a ws, v = .ref a ∧ ρ[n]? = some a ∧ Rd H a (.dK ws) ∧ KR K ρ H kvs ws := by
  rw [DR] at hv
  obtain ⟨a, h1, h2⟩ := hv
  cases q : st[n]? with
  | none => rw [q] at hs; cases hs
  | some o =>
    rw [q] at hs
    cases o with
    | dic k =>
      cases hs
      obtain ⟨vs, h3, h4⟩ := R.obj n a _ h2 q
      exact ⟨a, vs, h1, h2, .inl h3, h4⟩
    | dif k =>
      cases hs
      obtain ⟨ob, vs, h3, h4⟩ := R.obj n a _ h2 q
      exact ⟨a, vs, h1, h2, .inr ⟨ob, h3⟩, h4⟩
    | _ => cases hs
end
end Mx


/-! Mx2: what operators and built-in functions do with data, and that the model does just so. -/
namespace Mx
open PySem PySem.Spec L2
variable {T : List (Addr × Str)}

/-! ### readings by the store -/
def Post (T : List (Addr × Str)) (K : PySem.W.Frag) (ρ : List Addr) (H : Hp) (st : S) (d : D) (Q : VK) : Prop :=
  ∀ (ρ' : List Addr) (v : V) (H' : Hp), Ext ρ H ρ' H' → Rel T K ρ' H' st → DR K ρ' H' d v → Q v H'
def eM (T : List (Addr × Str)) (K : PySem.W.Frag) (m : Es → M D) : TE := fun σ H Q => ∃ (ρ : List Addr) (st : S) (es : Es) (d : D) (st' : S), Rel T K ρ H st ∧ ER K ρ H es σ ∧ m es st = some (d, st') ∧ Post T K ρ H st' d Q
def tM (T : List (Addr × Str)) (K : PySem.W.Frag) (m : Es → M Bool) : TT := fun σ H Q => ∃ (ρ : List Addr) (st : S) (es : Es) (b : Bool) (st' : S), Rel T K ρ H st ∧ ER K ρ H es σ ∧ m es st = some (b, st') ∧
  ∀ (ρ' : List Addr) (H' : Hp), Ext ρ H ρ' H' → Rel T K ρ' H' st' → Q b H'
def aM (T : List (Addr × Str)) (K : PySem.W.Frag) (m : Es → M (List D)) : TA := fun σ H Q => ∃ (ρ : List Addr) (st : S) (es : Es) (ds : List D) (st' : S), Rel T K ρ H st ∧ ER K ρ H es σ ∧ m es st = some (ds, st') ∧
  ∀ (ρ' : List Addr) (vs : List V) (H' : Hp), Ext ρ H ρ' H' → Rel T K ρ' H' st' → DRs K ρ' H' ds vs → Q vs H'
def r2M (T : List (Addr × Str)) (K : PySem.W.Frag) (g : D → D → M D) : R2 := fun x y H Q => ∃ (ρ : List Addr) (st : S) (a b d : D) (st' : S), Rel T K ρ H st ∧ DR K ρ H a x ∧ DR K ρ H b y ∧ g a b st = some (d, st') ∧ Post T K ρ H st' d Q
def rnM (T : List (Addr × Str)) (K : PySem.W.Frag) (g : List D → M D) : List V → Hp → VK → Prop := fun xs H Q => ∃ (ρ : List Addr) (st : S) (as : List D) (d : D) (st' : S), Rel T K ρ H st ∧ DRs K ρ H as xs ∧ g as st = some (d, st') ∧ Post T K ρ H st' d Q
def rmM (T : List (Addr × Str)) (K : PySem.W.Frag) (g : D → List D → M D) : V → List V → Hp → VK → Prop := fun x xs H Q => ∃ (ρ : List Addr) (st : S) (a : D) (as : List D) (d : D) (st' : S), Rel T K ρ H st ∧ DR K ρ H a x ∧ DRs K ρ H as xs ∧ g a as st = some (d, st') ∧ Post T K ρ H st' d Q

theorem bind_some {α β : Type} {m : M α} {f : α → M β} {s s' : S} {b : β} (h : (m >>= f) s = some (b, s')) : ∃ a s1, m s = some (a, s1) ∧ f a s1 = some (b, s') := by
  have h' : (match m s with | none => none | some (a, s1) => f a s1) = some (b, s') := h
  cases q : m s with
  | none => rw [q] at h'; cases h'
  | some p => rw [q] at h'; exact ⟨p.1, p.2, rfl, h'⟩
theorem pure_some {α : Type} {a b : α} {s s' : S} (h : (pure a : M α) s = some (b, s')) : b = a ∧ s' = s := by
  have h' : some (a, s) = some (b, s') := h
  cases h'; exact ⟨rfl, rfl⟩
theorem bind_eq {α β : Type} {m : M α} {f : α → M β} {s s1 : S} {a : α} (h : m s = some (a, s1)) : (m >>= f) s = f a s1 := by
  show (match m s with | none => none | some (a, s1) => f a s1) = _
  rw [h]
theorem bind_none {α β : Type} {m : M α} {f : α → M β} {s : S} (h : m s = none) : (m >>= f) s = none := by
  show (match m s with | none => none | some (a, s1) => f a s1) = _
  rw [h]

section
variable {K : PySem.W.Frag} {ρ : List Addr} {H : Hp} {st st' : S} {Q : VK} {d : D}
theorem Post.now {v : V} (R : Rel T K ρ H st) (k : Post T K ρ H st d Q) (h : DR K ρ H d v) : Q v H := k ρ v H (Ext.refl _ _) R h
theorem Post.tup {ds : List D} {vs : List V} (R : Rel T K ρ H st) (k : Post T K ρ H st (.tup ds) Q) (h : DRs K ρ H ds vs) : ∀ p, H p = none → Q (.ref p) (upd H p (.tup vs)) := fun p hp =>
  k ρ (.ref p) _ (Ext.tup hp) (R.tup hp) (by rw [DR]; exact ⟨p, vs, rfl, upd_same, DRs.ext R (Ext.tup hp) _ _ h⟩)
theorem ref_new {p : Addr} (R : Rel T K ρ H st) {H' : Hp} : DR K (ρ ++ [p]) H' (.ref st.length) (.ref p) := by
  rw [DR]
  refine ⟨p, rfl, ?_⟩
  rw [← R.len, List.getElem?_append_right (Nat.le_refl _)]
  simp
theorem Post.lst {ds : List D} {vs : List V} (R : Rel T K ρ H st) (k : Post T K ρ H (st ++ [.lst ds]) (.ref st.length) Q) (h : DRs K ρ H ds vs) : ∀ p, H p = none → Q (.ref p) (upd H p (.lst vs)) := fun p hp =>
  k (ρ ++ [p]) (.ref p) _ (Ext.new' hp) (R.push hp fun H' e x => ⟨vs, e, DRs.ext R x _ _ h⟩) (ref_new R)
theorem Post.dic {kvs : List (Key × D)} {ws : List (Key × V)} (R : Rel T K ρ H st) (k : Post T K ρ H (st ++ [.dic kvs]) (.ref st.length) Q) (h : KR K ρ H kvs ws) : ∀ p, H p = none → Q (.ref p) (upd H p (.dK ws)) := fun p hp =>
  k (ρ ++ [p]) (.ref p) _ (Ext.new' hp) (R.push hp fun H' e x => ⟨ws, e, KR.ext R x _ _ h⟩) (ref_new R)
end

/-! ### the store -/
def new (o : O) : M D := fun st => some (.ref st.length, st ++ [o])
def lstAt (n : Nat) : M (List D) := fun st => match st[n]? with
  | some (.lst ds) => some (ds, st)
  | _ => none
def dicAt (n : Nat) : M (List (Key × D)) := fun st => match kvsOf st[n]? with
  | some kvs => some (kvs, st)
  | none => none
def putAt (n : Nat) (o : O) : M Unit := fun st => some ((), st.set n o)
def guardM (c : Bool) : M Unit := if c then pure () else fail
theorem lstAt_some {n : Nat} {st st' : S} {ds : List D} (h : lstAt n st = some (ds, st')) : st[n]? = some (.lst ds) ∧ st' = st := by
  unfold lstAt at h
  split at h
  · cases h; exact ⟨by assumption, rfl⟩
  · cases h
theorem dicAt_some {n : Nat} {st st' : S} {ds : List (Key × D)} (h : dicAt n st = some (ds, st')) : kvsOf st[n]? = some ds ∧ st' = st := by
  unfold dicAt at h
  cases q : kvsOf st[n]? with
  | none => rw [q] at h; cases h
  | some k => rw [q] at h; cases h; exact ⟨rfl, rfl⟩
theorem guard_some {c : Bool} {st st' : S} {u : Unit} (h : guardM c st = some (u, st')) : c = true ∧ st' = st := by
  unfold guardM at h
  split at h
  · exact ⟨by assumption, (pure_some h).2⟩
  · cases h

/-! ### as the library's data -/
def mapO {α β : Type} (f : α → Option β) : List α → Option (List β)
  | [] => some []
  | x :: xs => match f x with
    | none => none
    | some y => match mapO f xs with
      | none => none
      | some ys => some (y :: ys)
def toPy (st : S) : Nat → D → Option PyData
  | 0, _ => none
  | _ + 1, .non => some .none
  | _ + 1, .bl b => some (.bool b)
  | _ + 1, .int i => some (.int i)
  | _ + 1, .str x => if PyData.strOk x then some (.str x) else none
  | _ + 1, .ty _ => none
  | n + 1, .tup ds => match mapO (toPy st n) ds with
    | some ps => some (.tuple ps)
    | none => none
  | n + 1, .rot ds => match mapO (toPy st n) ds with
    | some ps => some (.tuple ps)
    | none => none
  | n + 1, .rol ds => match mapO (toPy st n) ds with
    | some ps => some (.list ps)
    | none => none
  | n + 1, .ref m => match st[m]? with
    | some (.lst ds) => match mapO (toPy st n) ds with
      | some ps => some (.list ps)
      | none => none
    | _ => none
/-- data that == and repr take -/
structure PyOk (K : PySem.W.Frag) (H : Hp) (n : Nat) (v : V) (p : PyData) : Prop where
  dp : Dp K H v p
  lay : p.canLay0 = true
  deep : p.depth ≤ n
structure PyOks (K : PySem.W.Frag) (H : Hp) (n : Nat) (vs : List V) (ps : List PyData) : Prop where
  dp : DpAll K H vs ps
  lay : PyData.canLayAll0 ps = true
  deep : PyData.depthAll ps ≤ n
theorem mapO_ok {K : PySem.W.Frag} {ρ : List Addr} {H : Hp} {n : Nat} {f : D → Option PyData} (hf : ∀ (d : D) (v : V) (p : PyData), DR K ρ H d v → f d = some p → PyOk K H n v p) :
    ∀ (ds : List D) (vs : List V) (ps : List PyData), DRs K ρ H ds vs → mapO f ds = some ps → PyOks K H n vs ps
  | [], vs, ps, h, e => by
    rw [DRs] at h; subst h
    have e' : some [] = some ps := e
    cases e'
    exact ⟨.nil, rfl, Nat.zero_le _⟩
  | d :: ds, vs, ps, h, e => by
    rw [DRs] at h
    obtain ⟨v, r, rfl, h1, h2⟩ := h
    unfold mapO at e
    split at e
    · cases e
    · rename_i p hp
      split at e
      · cases e
      · rename_i qs hqs
        cases e
        have a := hf d v p h1 hp
        have b := mapO_ok hf ds r qs h2 hqs
        refine ⟨.cons a.dp b.dp, ?_, ?_⟩
        · rw [PyData.canLayAll0, a.lay, b.lay]; rfl
        · rw [PyData.depthAll]
          have := a.deep
          have := b.deep
          omega
theorem toPy_ok {K : PySem.W.Frag} {ρ : List Addr} {H : Hp} {st : S} (R : Rel T K ρ H st) : ∀ (n : Nat) (d : D) (v : V) (p : PyData), DR K ρ H d v → toPy st n d = some p → PyOk K H n v p
  | 0, _, _, _, _, e => by cases e
  | n + 1, .non, v, p, h, e => by rw [DR] at h; subst h; cases e; exact ⟨.non, rfl, Nat.zero_le _⟩
  | n + 1, .bl b, v, p, h, e => by rw [DR] at h; subst h; cases e; exact ⟨.bl b, rfl, Nat.zero_le _⟩
  | n + 1, .int i, v, p, h, e => by rw [DR] at h; subst h; cases e; exact ⟨.int i, rfl, Nat.zero_le _⟩
  | n + 1, .str x, v, p, h, e => by
    rw [DR] at h; subst h
    unfold toPy at e
    split at e
    · cases e; exact ⟨.str x, by rw [PyData.canLay0]; assumption, Nat.zero_le _⟩
    · cases e
  | n + 1, .ty _, v, p, h, e => by cases e
  | n + 1, .tup ds, v, p, h, e => by
    rw [DR] at h
    obtain ⟨a, vs, rfl, hq, hd⟩ := h
    unfold toPy at e
    split at e
    · rename_i ps hps
      cases e
      have q := mapO_ok (fun d v p h1 h2 => toPy_ok R n d v p h1 h2) ds vs ps hd hps
      exact ⟨.tup (SqT.of hq) q.dp, by rw [PyData.canLay0]; exact q.lay, by rw [PyData.depth]; exact Nat.succ_le_succ q.deep⟩
    · cases e
  | n + 1, .rot ds, v, p, h, e => by
    rw [DR] at h
    obtain ⟨a, vs, rfl, hq, hd⟩ := h
    unfold toPy at e
    split at e
    · rename_i ps hps
      cases e
      have q := mapO_ok (fun d v p h1 h2 => toPy_ok R n d v p h1 h2) ds vs ps hd hps
      exact ⟨.tup hq q.dp, by rw [PyData.canLay0]; exact q.lay, by rw [PyData.depth]; exact Nat.succ_le_succ q.deep⟩
    · cases e
  | n + 1, .rol ds, v, p, h, e => by
    rw [DR] at h
    obtain ⟨a, vs, rfl, hq, hd⟩ := h
    unfold toPy at e
    split at e
    · rename_i ps hps
      cases e
      have q := mapO_ok (fun d v p h1 h2 => toPy_ok R n d v p h1 h2) ds vs ps hd hps
      exact ⟨.lst hq.sq q.dp, by rw [PyData.canLay0]; exact q.lay, by rw [PyData.depth]; exact Nat.succ_le_succ q.deep⟩
    · cases e
  | n + 1, .ref m, v, p, h, e => by
    unfold toPy at e
    split at e
    · rename_i ds hm
      split at e
      · rename_i ps hps
        cases e
        obtain ⟨a, vs, rfl, _, hq, hd⟩ := R.lst h hm
        have q := mapO_ok (fun d v p h1 h2 => toPy_ok R n d v p h1 h2) ds vs ps hd hps
        exact ⟨.lst (SqL.of hq) q.dp, by rw [PyData.canLay0]; exact q.lay, by rw [PyData.depth]; exact Nat.succ_le_succ q.deep⟩
      · cases e
    · cases e
theorem PyOk.shaped {K : PySem.W.Frag} {H : Hp} {v : V} {p : PyData} {n : Nat} (h : PyOk K H n v p) (hn : n ≤ 64) : SeqAt.shaped p = true := by
  show (p.canLay0 && decide (p.depth ≤ 64)) = true
  rw [h.lay, decide_eq_true (Nat.le_trans h.deep hn)]; rfl

/-! ### comparing -/
def eqD (a b : D) : M Bool := fun st => match toPy st 64 a, toPy st 64 b with
  | some p, some q => some (PyData.eqv p q, st)
  | _, _ => none
theorem eqD_some {a b : D} {st st' : S} {c : Bool} (h : eqD a b st = some (c, st')) : ∃ p q, toPy st 64 a = some p ∧ toPy st 64 b = some q ∧ c = PyData.eqv p q ∧ st' = st := by
  unfold eqD at h
  split at h
  · rename_i p q hp hq
    cases h
    exact ⟨p, q, hp, hq, rfl, rfl⟩
  · cases h
def blM (m : M Bool) : M D := do
  let b ← m
  pure (.bl b)
theorem blM_some {m : M Bool} {st st' : S} {d : D} (h : blM m st = some (d, st')) : ∃ b, m st = some (b, st') ∧ d = .bl b := by
  obtain ⟨b, s1, h1, h2⟩ := bind_some h
  obtain ⟨rfl, rfl⟩ := pure_some h2
  exact ⟨b, h1, rfl⟩
section
variable {X : Cx}
theorem op_eqM (hu : X.A.units + 64 < cLine) : OpR X (compareOp .Eq) (r2M T X.K fun a b => blM (eqD a b)) := by
  intro pins s σ H x y v u Q I rx ry ⟨ρ, st, a, b, d, st', R, ha, hb, hg, k⟩
  obtain ⟨c, hc, rfl⟩ := blM_some hg
  obtain ⟨p, q, hp, hq, rfl, rfl⟩ := eqD_some hc
  have P := toPy_ok R 64 a x p ha hp
  have P' := toPy_ok R 64 b y q hb hq
  exact op_eqD hu pins s σ H x y v u Q I rx ry ⟨p, q, P.dp, P'.dp, P.shaped (Nat.le_refl _), P'.shaped (Nat.le_refl _), k.now R (by rw [DR])⟩
def notM (m : M Bool) : M Bool := do
  let b ← m
  pure (!b)
theorem notM_some {m : M Bool} {st st' : S} {d : Bool} (h : notM m st = some (d, st')) : ∃ b, m st = some (b, st') ∧ d = !b := by
  obtain ⟨b, s1, h1, h2⟩ := bind_some h
  obtain ⟨rfl, rfl⟩ := pure_some h2
  exact ⟨b, h1, rfl⟩
theorem op_neM (hu : X.A.units + 64 < cLine) : OpR X (compareOp .NotEq) (r2M T X.K fun a b => blM (notM (eqD a b))) := by
  intro pins s σ H x y v u Q I rx ry ⟨ρ, st, a, b, d, st', R, ha, hb, hg, k⟩
  obtain ⟨c, hc, rfl⟩ := blM_some hg
  obtain ⟨c, hc2, rfl⟩ := notM_some hc
  obtain ⟨p, q, hp, hq, rfl, rfl⟩ := eqD_some hc2
  have P := toPy_ok R 64 a x p ha hp
  have P' := toPy_ok R 64 b y q hb hq
  exact op_neD hu pins s σ H x y v u Q I rx ry ⟨p, q, P.dp, P'.dp, P.shaped (Nat.le_refl _), P'.shaped (Nat.le_refl _), k.now R (by rw [DR])⟩

/-! ### order of whole numbers -/
def ltD : D → D → M Bool
  | .int i, .int j => pure (decide (i < j))
  | _, _ => fail
def leD : D → D → M Bool
  | .int i, .int j => pure (decide (i ≤ j))
  | _, _ => fail
theorem ltD_some {a b : D} {st st' : S} {c : Bool} (h : ltD a b st = some (c, st')) : ∃ i j, a = .int i ∧ b = .int j ∧ c = decide (i < j) ∧ st' = st := by
  unfold ltD at h
  split at h
  · obtain ⟨rfl, rfl⟩ := pure_some h; exact ⟨_, _, rfl, rfl, rfl, rfl⟩
  · cases h
theorem leD_some {a b : D} {st st' : S} {c : Bool} (h : leD a b st = some (c, st')) : ∃ i j, a = .int i ∧ b = .int j ∧ c = decide (i ≤ j) ∧ st' = st := by
  unfold leD at h
  split at h
  · obtain ⟨rfl, rfl⟩ := pure_some h; exact ⟨_, _, rfl, rfl, rfl, rfl⟩
  · cases h
theorem DR.int {K : PySem.W.Frag} {ρ : List Addr} {H : Hp} {i : Int} {v : V} (h : DR K ρ H (.int i) v) : v = .int i := by rw [DR] at h; exact h
theorem DR.str {K : PySem.W.Frag} {ρ : List Addr} {H : Hp} {i : Str} {v : V} (h : DR K ρ H (.str i) v) : v = .str i := by rw [DR] at h; exact h
theorem DR.bl {K : PySem.W.Frag} {ρ : List Addr} {H : Hp} {i : Bool} {v : V} (h : DR K ρ H (.bl i) v) : v = .bl i := by rw [DR] at h; exact h
theorem DR.non {K : PySem.W.Frag} {ρ : List Addr} {H : Hp} {v : V} (h : DR K ρ H .non v) : v = .non := by rw [DR] at h; exact h
theorem DR.tupS {K : PySem.W.Frag} {ρ : List Addr} {H : Hp} {ds : List D} {v : V} (h : DR K ρ H (.tup ds) v) : ∃ a vs, v = .ref a ∧ H a = some (.tup vs) ∧ DRs K ρ H ds vs := by rw [DR] at h; exact h
theorem DR.rot {K : PySem.W.Frag} {ρ : List Addr} {H : Hp} {ds : List D} {v : V} (h : DR K ρ H (.rot ds) v) : ∃ a vs, v = .ref a ∧ SqT K H a vs ∧ DRs K ρ H ds vs := by rw [DR] at h; exact h
theorem DR.tup {K : PySem.W.Frag} {ρ : List Addr} {H : Hp} {ds : List D} {v : V} (h : DR K ρ H (.tup ds) v) : ∃ a vs, v = .ref a ∧ SqT K H a vs ∧ DRs K ρ H ds vs := by
  obtain ⟨a, vs, h1, h2, h3⟩ := h.tupS
  exact ⟨a, vs, h1, SqT.of h2, h3⟩
theorem DR.rol {K : PySem.W.Frag} {ρ : List Addr} {H : Hp} {ds : List D} {v : V} (h : DR K ρ H (.rol ds) v) : ∃ a vs, v = .ref a ∧ RoL K H a vs ∧ DRs K ρ H ds vs := by rw [DR] at h; exact h
theorem op_ltM : OpR X (compareOp .Lt) (r2M T X.K fun a b => blM (ltD a b)) := by
  intro pins s σ H x y v u Q I rx ry ⟨ρ, st, a, b, d, st', R, ha, hb, hg, k⟩
  obtain ⟨c, hc, rfl⟩ := blM_some hg
  obtain ⟨i, j, rfl, rfl, rfl, rfl⟩ := ltD_some hc
  exact op_lt pins s σ H x y v u Q I rx ry ⟨i, j, ha.int, hb.int, k.now R (by rw [DR])⟩
theorem op_gtM : OpR X (compareOp .Gt) (r2M T X.K fun a b => blM (ltD b a)) := by
  intro pins s σ H x y v u Q I rx ry ⟨ρ, st, a, b, d, st', R, ha, hb, hg, k⟩
  obtain ⟨c, hc, rfl⟩ := blM_some hg
  obtain ⟨i, j, rfl, rfl, rfl, rfl⟩ := ltD_some hc
  exact op_gt pins s σ H x y v u Q I rx ry ⟨j, i, ha.int, hb.int, k.now R (by rw [DR])⟩
theorem op_leM : OpR X (compareOp .LtE) (r2M T X.K fun a b => blM (leD a b)) := by
  intro pins s σ H x y v u Q I rx ry ⟨ρ, st, a, b, d, st', R, ha, hb, hg, k⟩
  obtain ⟨c, hc, rfl⟩ := blM_some hg
  obtain ⟨i, j, rfl, rfl, rfl, rfl⟩ := leD_some hc
  exact op_le pins s σ H x y v u Q I rx ry ⟨i, j, ha.int, hb.int, k.now R (by rw [DR])⟩
theorem op_geM : OpR X (compareOp .GtE) (r2M T X.K fun a b => blM (leD b a)) := by
  intro pins s σ H x y v u Q I rx ry ⟨ρ, st, a, b, d, st', R, ha, hb, hg, k⟩
  obtain ⟨c, hc, rfl⟩ := blM_some hg
  obtain ⟨i, j, rfl, rfl, rfl, rfl⟩ := leD_some hc
  exact op_ge pins s σ H x y v u Q I rx ry ⟨j, i, ha.int, hb.int, k.now R (by rw [DR])⟩

/-! ### is -/
def isD : D → D → M Bool
  | .non, .non => pure true
  | .bl _, .non => pure false
  | .int _, .non => pure false
  | .str _, .non => pure false
  | .tup _, .non => pure false
  | .rot _, .non => pure false
  | .rol _, .non => pure false
  | .ref _, .non => pure false
  | .bl a, .bl b => pure (decide (a = b))
  | _, _ => fail
theorem isD_ok {K : PySem.W.Frag} {ρ : List Addr} {H : Hp} {a b : D} {x y : V} {st st' : S} {c : Bool} (ha : DR K ρ H a x) (hb : DR K ρ H b y) (h : isD a b st = some (c, st')) : st' = st ∧
    ((y = .non ∧ c = decide (x = .non)) ∨ ∃ i j, x = .bl i ∧ y = .bl j ∧ c = decide (i = j)) := by
  cases b with
  | non =>
    have hy := hb.non
    cases a with
    | non => obtain ⟨rfl, rfl⟩ := pure_some h; exact ⟨rfl, .inl ⟨hy, by rw [ha.non]; rfl⟩⟩
    | bl i => obtain ⟨rfl, rfl⟩ := pure_some h; exact ⟨rfl, .inl ⟨hy, by rw [ha.bl]; rfl⟩⟩
    | int i => obtain ⟨rfl, rfl⟩ := pure_some h; exact ⟨rfl, .inl ⟨hy, by rw [ha.int]; rfl⟩⟩
    | str i => obtain ⟨rfl, rfl⟩ := pure_some h; exact ⟨rfl, .inl ⟨hy, by rw [ha.str]; rfl⟩⟩
    | tup i => obtain ⟨rfl, rfl⟩ := pure_some h; obtain ⟨_, _, e, _⟩ := ha.tup; exact ⟨rfl, .inl ⟨hy, by rw [e]; rfl⟩⟩
    | rot i => obtain ⟨rfl, rfl⟩ := pure_some h; obtain ⟨_, _, e, _⟩ := ha.rot; exact ⟨rfl, .inl ⟨hy, by rw [e]; rfl⟩⟩
    | rol i => obtain ⟨rfl, rfl⟩ := pure_some h; obtain ⟨_, _, e, _⟩ := ha.rol; exact ⟨rfl, .inl ⟨hy, by rw [e]; rfl⟩⟩
    | ref i => obtain ⟨rfl, rfl⟩ := pure_some h; rw [DR] at ha; obtain ⟨_, e, _⟩ := ha; exact ⟨rfl, .inl ⟨hy, by rw [e]; rfl⟩⟩
    | ty i => cases h
  | bl j =>
    cases a with
    | bl i => obtain ⟨rfl, rfl⟩ := pure_some h; exact ⟨rfl, .inr ⟨i, j, ha.bl, hb.bl, rfl⟩⟩
    | _ => cases h
  | _ => cases a <;> cases h
theorem op_isM : OpR X (compareOp .Is) (r2M T X.K fun a b => blM (isD a b)) := by
  intro pins s σ H x y v u Q I rx ry ⟨ρ, st, a, b, d, st', R, ha, hb, hg, k⟩
  obtain ⟨c, hc, rfl⟩ := blM_some hg
  obtain ⟨rfl, h | ⟨i, j, h1, h2, h3⟩⟩ := isD_ok ha hb hc
  · exact op_isN pins s σ H x y v u Q I rx ry ⟨h.1, by rw [← h.2]; exact k.now R (by rw [DR])⟩
  · exact op_is_bl pins s σ H x y v u Q I rx ry ⟨i, j, h1, h2, by rw [← h3]; exact k.now R (by rw [DR])⟩
theorem op_isnotM : OpR X (compareOp .IsNot) (r2M T X.K fun a b => blM (notM (isD a b))) := by
  intro pins s σ H x y v u Q I rx ry ⟨ρ, st, a, b, d, st', R, ha, hb, hg, k⟩
  obtain ⟨c, hc, rfl⟩ := blM_some hg
  obtain ⟨c, hc2, rfl⟩ := notM_some hc
  obtain ⟨rfl, h | ⟨i, j, h1, h2, h3⟩⟩ := isD_ok ha hb hc2
  · exact op_notN pins s σ H x y v u Q I rx ry ⟨h.1, by rw [← h.2]; exact k.now R (by rw [DR])⟩
  · exact op_isnot_bl pins s σ H x y v u Q I rx ry ⟨i, j, h1, h2, by rw [← h3]; exact k.now R (by rw [DR])⟩
end
end Mx


/-! Mx3: arithmetic, membership, subscripts, slices. -/
namespace Mx
open PySem PySem.Spec L2
variable {T : List (Addr × Str)}

/-! ### dicts as lists of pairs -/
section
variable {κ : Type} [DecidableEq κ] {β : Type}
def look : List (κ × β) → κ → Option β
  | [], _ => none
  | p :: r, k => if p.1 = k then some p.2 else look r k
def repl : List (κ × β) → κ → β → List (κ × β)
  | [], _, _ => []
  | p :: r, k, v => (if p.1 = k then (p.1, v) else p) :: repl r k v
def put (kvs : List (κ × β)) (k : κ) (v : β) : List (κ × β) := if (look kvs k).isSome then repl kvs k v else kvs ++ [(k, v)]
def merge (kvs more : List (κ × β)) : List (κ × β) := more.foldl (fun acc kv => put acc kv.1 kv.2) kvs
end
section
variable {κ : Type} [DecidableEq κ] {K : PySem.W.Frag} {ρ : List Addr} {H : Hp}
theorem KR.nil : KR K ρ H ([] : List (κ × D)) [] := rfl
theorem KR.cons {p : κ × D} {q : κ × V} {ps : List (κ × D)} {qs : List (κ × V)} (h1 : p.1 = q.1) (h2 : DR K ρ H p.2 q.2) (h3 : KR K ρ H ps qs) : KR K ρ H (p :: ps) (q :: qs) := ⟨q, qs, rfl, h1, h2, h3⟩
theorem KR.length : ∀ {ps : List (κ × D)} {ws : List (κ × V)}, KR K ρ H ps ws → ws.length = ps.length
  | [], _, h => by
    have h' : _ = [] := h
    rw [h']; rfl
  | p :: ps, _, ⟨q, r, e, _, _, h⟩ => by subst e; simp [KR.length h]
theorem KR.look : ∀ {ps : List (κ × D)} {ws : List (κ × V)} (k : κ), KR K ρ H ps ws → (∀ d, Mx.look ps k = some d → ∃ v, valV ws k = some v ∧ DR K ρ H d v) ∧ (Mx.look ps k = none → valV ws k = none)
  | [], _, k, h => by
    have h' : _ = [] := h
    subst h'
    exact ⟨fun d e => (by cases e), fun _ => rfl⟩
  | p :: ps, _, k, ⟨q, r, e, h1, h2, h3⟩ => by
    subst e
    have ih := KR.look k h3
    unfold Mx.look
    by_cases hk : p.1 = k
    · rw [if_pos hk, valV_pos (h1 ▸ hk)]
      exact ⟨fun d e => by cases e; exact ⟨q.2, rfl, h2⟩, fun e => nomatch e⟩
    · rw [if_neg hk, valV_neg (h1 ▸ hk)]
      exact ih
theorem KR.repl : ∀ {ps : List (κ × D)} {ws : List (κ × V)} (k : κ) {d : D} {v : V}, KR K ρ H ps ws → DR K ρ H d v → KR K ρ H (Mx.repl ps k d) (ws.map fun kv => if kv.1 = k then (kv.1, v) else kv)
  | [], _, k, _, _, h, _ => by
    have h' : _ = [] := h
    subst h'
    rfl
  | p :: ps, _, k, d, v, ⟨q, r, e, h1, h2, h3⟩, hd => by
    subst e
    have ih := KR.repl k h3 hd
    unfold Mx.repl
    rw [List.map_cons]
    refine KR.cons ?_ ?_ ih
    · by_cases hk : p.1 = k
      · rw [if_pos hk, if_pos (h1 ▸ hk)]; exact h1
      · rw [if_neg hk, if_neg (h1 ▸ hk)]; exact h1
    · by_cases hk : p.1 = k
      · rw [if_pos hk, if_pos (h1 ▸ hk)]; exact hd
      · rw [if_neg hk, if_neg (h1 ▸ hk)]; exact h2
theorem KR.snoc : ∀ {ps : List (κ × D)} {ws : List (κ × V)} {k : κ} {d : D} {v : V}, KR K ρ H ps ws → DR K ρ H d v → KR K ρ H (ps ++ [(k, d)]) (ws ++ [(k, v)])
  | [], _, _, _, _, h, hd => by
    have h' : _ = [] := h
    subst h'
    exact KR.cons rfl hd rfl
  | p :: ps, _, _, _, _, ⟨q, r, e, h1, h2, h3⟩, hd => by
    subst e
    exact KR.cons h1 h2 (KR.snoc h3 hd)
theorem KR.put {ps : List (κ × D)} {ws : List (κ × V)} (k : κ) {d : D} {v : V} (h : KR K ρ H ps ws) (hd : DR K ρ H d v) : KR K ρ H (Mx.put ps k d) (putK ws k v) := by
  unfold Mx.put putK
  rw [valV_any]
  obtain ⟨h1, h2⟩ := h.look k
  cases e : Mx.look ps k with
  | none =>
    rw [h2 e]
    exact h.snoc hd
  | some x =>
    obtain ⟨y, e1, _⟩ := h1 x e
    rw [e1]
    exact h.repl k hd
end

/-! ### arithmetic -/
def mulOk (i j : Int) : Bool := (decide (-(2 ^ 64) < i) && decide (i < 2 ^ 64)) || (decide (-(2 ^ 64) < j) && decide (j < 2 ^ 64))
theorem mulOk_of {i j : Int} (h : mulOk i j = true) : CMul i j := by
  unfold mulOk at h
  simp only [Bool.or_eq_true, Bool.and_eq_true, decide_eq_true_eq] at h
  exact h
def addD : D → D → M D
  | .int i, .int j => pure (.int (i + j))
  | .str x, .str y => do
    guardM (decide (x.length + y.length ≤ sizeLine))
    pure (.str (x ++ y))
  | .tup xs, .tup ys => do
    guardM (decide (xs.length + ys.length ≤ sizeLine))
    pure (.tup (xs ++ ys))
  | .ref n, .ref m => do
    let xs ← lstAt n
    let ys ← lstAt m
    guardM (decide (xs.length + ys.length ≤ sizeLine))
    new (.lst (xs ++ ys))
  | _, _ => fail
def subD : D → D → M D
  | .int i, .int j => pure (.int (i - j))
  | _, _ => fail
def mulD : D → D → M D
  | .int i, .int j => do
    guardM (mulOk i j)
    pure (.int (i * j))
  | .tup xs, .int k => do
    guardM (!xs.isEmpty && decide (2 ≤ k) && decide (k ≤ 1000) && decide (xs.length ≤ 1000))
    pure (.tup (List.replicate k.toNat xs).flatten)
  | .ref n, .int k => do
    let xs ← lstAt n
    guardM (decide (-(2 ^ 63) ≤ k) && decide (k < 2 ^ 63) && decide (xs.length * k.toNat ≤ sizeLine))
    new (.lst (List.replicate k.toNat xs).flatten)
  | _, _ => fail
def fdivD : D → D → M D
  | .int i, .int j => do
    guardM (decide (j ≠ 0) && decide (j.natAbs < 1073741824))
    pure (.int (i.fdiv j))
  | _, _ => fail
def modD : D → D → M D
  | .int i, .int j => do
    guardM (decide (j ≠ 0))
    pure (.int (i.fmod j))
  | _, _ => fail
def powD : D → D → M D
  | .int i, .int j => do
    guardM (decide (0 ≤ j) && decide (j ≤ 1000000) && decide (i.natAbs < 2 ^ 64))
    pure (.int (i ^ j.toNat))
  | _, _ => fail
def binD : Operator → D → D → M D
  | .Add => addD
  | .Sub => subD
  | .Mult => mulD
  | .FloorDiv => fdivD
  | .Mod => modD
  | .Pow => powD
  | _ => fun _ _ => fail
theorem guarded {α : Type} {c : Bool} {m : M α} {st st' : S} {a : α} (h : (guardM c >>= fun _ => m) st = some (a, st')) : c = true ∧ m st = some (a, st') := by
  obtain ⟨u, s1, h1, h2⟩ := bind_some h
  obtain ⟨h3, rfl⟩ := guard_some h1
  exact ⟨h3, h2⟩
theorem DRs.flatRep {K : PySem.W.Frag} {ρ : List Addr} {H : Hp} {ds : List D} {vs : List V} (h : DRs K ρ H ds vs) : ∀ k : Nat, DRs K ρ H (List.replicate k ds).flatten (List.replicate k vs).flatten
  | 0 => DRs.nil
  | k + 1 => by
    rw [List.replicate_succ, List.replicate_succ, List.flatten_cons, List.flatten_cons]
    exact h.append (DRs.flatRep h k)
section
variable {X : Cx}
theorem add_tup {pins : List (Addr × Obj)} {s : Shared} {σ : St} {H : Hp} {x y : V} {v u : Value} {Q : VK} {ρ : List Addr} {st : S} {xs ys : List D} {f : Value → Value → Sem Value} (hf : OpR X f (rCatA X.K)) (I : L2.Inv X pins σ H s) (rx : RelV x v) (ry : RelV y u) (R : Rel T X.K ρ H st)
    (ha : DR X.K ρ H (.tup xs) x) (hb : DR X.K ρ H (.tup ys) y) (hz : xs.length + ys.length ≤ sizeLine) (k : Post T X.K ρ H st (.tup (xs ++ ys)) Q) : wpAny (model X.prog X.w) X.A (f v u) (EP X pins σ Q) X.xe s := by
  obtain ⟨a, vs, rfl, h1, h2⟩ := ha.tup
  obtain ⟨b, ws, rfl, h3, h4⟩ := hb.tup
  have hl := h2.length
  have hl2 := h4.length
  refine hf pins s σ H _ _ v u Q I rx ry ⟨a, b, vs, ws, rfl, rfl, h1, h3, by omega, fun e => ?_, fun _ e => ?_, fun _ _ => k.tup R (h2.append h4)⟩
  · subst e
    have e0 : xs = [] := by cases xs with
      | nil => rfl
      | cons _ _ => simp at hl
    subst e0
    exact k.now R hb
  · subst e
    have e0 : ys = [] := by cases ys with
      | nil => rfl
      | cons _ _ => simp at hl2
    subst e0
    rw [List.append_nil] at k
    exact k.now R ha
theorem op_addM : OpR X (binaryOp .Add) (r2M T X.K addD) := by
  intro pins s σ H x y v u Q I rx ry ⟨ρ, st, a, b, d, st', R, ha, hb, hg, k⟩
  unfold addD at hg
  split at hg
  · obtain ⟨rfl, rfl⟩ := pure_some hg
    exact op_add pins s σ H x y v u Q I rx ry ⟨_, _, ha.int, hb.int, k.now R (by rw [DR])⟩
  · obtain ⟨hz, hg⟩ := guarded hg
    obtain ⟨rfl, rfl⟩ := pure_some hg
    exact op_add_str pins s σ H x y v u Q I rx ry ⟨_, _, ha.str, hb.str, of_decide_eq_true hz, k.now R (by rw [DR])⟩
  · obtain ⟨hz, hg⟩ := guarded hg
    obtain ⟨rfl, rfl⟩ := pure_some hg
    exact add_tup op_catA I rx ry R ha hb (of_decide_eq_true hz) k
  · obtain ⟨xs, s1, h1, hg1⟩ := bind_some hg
    obtain ⟨e1, rfl⟩ := lstAt_some h1
    obtain ⟨ys, s2, h2, hg2⟩ := bind_some hg1
    obtain ⟨e2, rfl⟩ := lstAt_some h2
    obtain ⟨hz, hg3⟩ := guarded hg2
    obtain ⟨a, vs, rfl, _, q1, q2⟩ := R.lst ha e1
    obtain ⟨b, ws, rfl, _, q3, q4⟩ := R.lst hb e2
    cases hg3
    have hz' := of_decide_eq_true hz
    exact op_cat pins s σ H _ _ v u Q I rx ry ⟨a, b, vs, ws, rfl, rfl, q1, q3, by rw [q2.length, q4.length]; exact hz', k.lst R (q2.append q4)⟩
  · cases hg
theorem op_subM : OpR X (binaryOp .Sub) (r2M T X.K subD) := by
  intro pins s σ H x y v u Q I rx ry ⟨ρ, st, a, b, d, st', R, ha, hb, hg, k⟩
  unfold subD at hg
  split at hg
  · obtain ⟨rfl, rfl⟩ := pure_some hg
    exact op_sub pins s σ H x y v u Q I rx ry ⟨_, _, ha.int, hb.int, k.now R (by rw [DR])⟩
  · cases hg
theorem op_mulM : OpR X (binaryOp .Mult) (r2M T X.K mulD) := by
  intro pins s σ H x y v u Q I rx ry ⟨ρ, st, a, b, d, st', R, ha, hb, hg, k⟩
  unfold mulD at hg
  split at hg
  · obtain ⟨hz, hg⟩ := guarded hg
    obtain ⟨rfl, rfl⟩ := pure_some hg
    exact op_mul pins s σ H x y v u Q I rx ry ⟨_, _, ha.int, hb.int, mulOk_of hz, k.now R (by rw [DR])⟩
  · rename_i xs j
    obtain ⟨hz, hg⟩ := guarded hg
    obtain ⟨rfl, rfl⟩ := pure_some hg
    simp only [Bool.and_eq_true, decide_eq_true_eq, Bool.not_eq_true'] at hz
    obtain ⟨a, vs, rfl, h1, h2⟩ := ha.tup
    have hl := h2.length
    refine op_repT pins s σ H _ _ v u Q I rx ry ⟨a, j, vs, rfl, hb.int, h1, fun e => ?_, hz.1.1.2, hz.1.2, by rw [hl]; exact hz.2, k.tup R (h2.flatRep _)⟩
    subst e
    have e0 : xs = [] := by cases xs with
      | nil => rfl
      | cons _ _ => simp at hl
    subst e0
    simp at hz
  · rename_i n j
    obtain ⟨xs, s1, h1, hg1⟩ := bind_some hg
    obtain ⟨e1, rfl⟩ := lstAt_some h1
    obtain ⟨hz, hg2⟩ := guarded hg1
    simp only [Bool.and_eq_true, decide_eq_true_eq] at hz
    obtain ⟨a, vs, rfl, _, q1, q2⟩ := R.lst ha e1
    cases hg2
    exact op_rep pins s σ H _ _ v u Q I rx ry ⟨a, j, vs, rfl, hb.int, q1, hz.1.1, hz.1.2, by rw [q2.length]; exact hz.2, k.lst R (q2.flatRep _)⟩
  · cases hg
theorem op_fdivM : OpR X (binaryOp .FloorDiv) (r2M T X.K fdivD) := by
  intro pins s σ H x y v u Q I rx ry ⟨ρ, st, a, b, d, st', R, ha, hb, hg, k⟩
  unfold fdivD at hg
  split at hg
  · obtain ⟨hz, hg⟩ := guarded hg
    obtain ⟨rfl, rfl⟩ := pure_some hg
    simp only [Bool.and_eq_true, decide_eq_true_eq] at hz
    exact op_fdivN pins s σ H x y v u Q I rx ry ⟨_, _, ha.int, hb.int, hz, k.now R (by rw [DR])⟩
  · cases hg
theorem op_modM : OpR X (binaryOp .Mod) (r2M T X.K modD) := by
  intro pins s σ H x y v u Q I rx ry ⟨ρ, st, a, b, d, st', R, ha, hb, hg, k⟩
  unfold modD at hg
  split at hg
  · obtain ⟨hz, hg⟩ := guarded hg
    obtain ⟨rfl, rfl⟩ := pure_some hg
    exact op_modN pins s σ H x y v u Q I rx ry ⟨_, _, ha.int, hb.int, of_decide_eq_true hz, k.now R (by rw [DR])⟩
  · cases hg
theorem op_powM : OpR X (binaryOp .Pow) (r2M T X.K powD) := by
  intro pins s σ H x y v u Q I rx ry ⟨ρ, st, a, b, d, st', R, ha, hb, hg, k⟩
  unfold powD at hg
  split at hg
  · obtain ⟨hz, hg⟩ := guarded hg
    obtain ⟨rfl, rfl⟩ := pure_some hg
    simp only [Bool.and_eq_true, decide_eq_true_eq] at hz
    exact op_pow pins s σ H x y v u Q I rx ry ⟨_, _, ha.int, hb.int, ⟨hz.1.1, hz.1.2, hz.2⟩, k.now R (by rw [DR])⟩
  · cases hg
theorem op_binM (o : Operator) : OpR X (binaryOp o) (r2M T X.K (binD o)) := by
  cases o with
  | Add => exact op_addM
  | Sub => exact op_subM
  | Mult => exact op_mulM
  | FloorDiv => exact op_fdivM
  | Mod => exact op_modM
  | Pow => exact op_powM
  | _ => intro pins s σ H x y v u Q I rx ry ⟨ρ, st, a, b, d, st', R, ha, hb, hg, k⟩; cases hg
def negD : D → M D
  | .int i => pure (.int (-i))
  | _ => fail
def r1M (T : List (Addr × Str)) (K : PySem.W.Frag) (g : D → M D) : V → Hp → VK → Prop := fun x H Q => ∃ (ρ : List Addr) (st : S) (a d : D) (st' : S), Rel T K ρ H st ∧ DR K ρ H a x ∧ g a st = some (d, st') ∧ Post T K ρ H st' d Q
theorem un_negM : UnR X (unaryOp .USub) (r1M T X.K negD) := by
  intro pins s σ H x v Q I rx ⟨ρ, st, a, d, st', R, ha, hg, k⟩
  unfold negD at hg
  split at hg
  · obtain ⟨rfl, rfl⟩ := pure_some hg
    exact un_neg pins s σ H x v Q I rx ⟨_, ha.int, k.now R (by rw [DR])⟩
  · cases hg
end
end Mx


/-! Mx4: membership, subscripts, slices, stores. -/
namespace Mx
open PySem PySem.Spec L2
variable {T : List (Addr × Str)}

/-! ### x in y -/
def flatD : D → Bool
  | .non => true
  | .bl _ => true
  | .int _ => true
  | .str _ => true
  | _ => false
def eq1 : D → D → Bool
  | .non, .non => true
  | .bl a, .bl b => a == b
  | .bl a, .int b => (if a then 1 else 0) == b
  | .int a, .bl b => a == (if b then 1 else 0)
  | .int a, .int b => a == b
  | .str a, .str b => a == b
  | _, _ => false
def keyD : D → Option Key
  | .int i => some (.inl i)
  | .str x => some (.inr x)
  | _ => none
def inFlat (x : D) (ys : List D) : M Bool := do
  guardM (flatD x && ys.all flatD)
  pure (ys.any fun z => eq1 z x)
def inDeep (x : D) (ys : List D) : M Bool := fun st => match toPy st 64 x, mapO (toPy st 63) ys with
  | some p, some qs => some (qs.any fun q => PyData.eqv q p, st)
  | _, _ => none
def mapKey : List D → Option (List Key)
  | [] => some []
  | d :: r => match keyD d, mapKey r with
    | some k, some ks => some (k :: ks)
    | _, _ => none
/-- a tuple of ints and texts -/
def keysD : D → Option (List Key)
  | .tup ds => mapKey ds
  | _ => none
def inDic (x : D) (kvs : List (Key × D)) : M Bool := fun st => match keyD x with
  | some k => some ((look kvs k).isSome, st)
  | none => none
def inDit (x : D) (kvs : List (List Key × D)) : M Bool := fun st => match keysD x with
  | some k => some ((look kvs k).isSome, st)
  | none => none
def inRef (x : D) (n : Nat) : M Bool := fun st => match st[n]? with
  | some (.lst ys) => if flatD x && ys.all flatD then inFlat x ys st else inDeep x ys st
  | some (.dic kvs) => inDic x kvs st
  | some (.dif kvs) => inDic x kvs st
  | some (.dit kvs) => inDit x kvs st
  | none => none
theorem mapKey_of {K : PySem.W.Frag} {ρ : List Addr} {H : Hp} : ∀ {ds : List D} {vs : List V} {ks : List Key}, DRs K ρ H ds vs → mapKey ds = some ks → vs = ks.map kV
  | [], _, _, h, e => by rw [DRs] at h; subst h; cases e; rfl
  | d :: ds, _, ks, h, e => by
    rw [DRs] at h
    obtain ⟨v, r, rfl, h1, h2⟩ := h
    unfold mapKey at e
    cases q : keyD d with
    | none => rw [q] at e; cases e
    | some k =>
      cases q2 : mapKey ds with
      | none => rw [q, q2] at e; cases e
      | some rs =>
        rw [q, q2] at e
        cases e
        rw [List.map_cons, ← mapKey_of h2 q2]
        cases d with
        | int i => cases q; rw [h1.int]; rfl
        | str i => cases q; rw [h1.str]; rfl
        | _ => cases q
theorem keysD_of {K : PySem.W.Frag} {ρ : List Addr} {H : Hp} {d : D} {v : V} {ks : List Key} (h : DR K ρ H d v) (e : keysD d = some ks) : ∃ b, v = .ref b ∧ H b = some (.tup (ks.map kV)) := by
  cases d with
  | tup ds =>
    obtain ⟨b, vs, e1, e2, e3⟩ := h.tupS
    rw [mapKey_of e3 e] at e2
    exact ⟨b, e1, e2⟩
  | _ => cases e
def oneSign (w : Str) : Option Nat := match w.cps.toList with
  | [c] => some c
  | _ => none
theorem oneSign_some {w : Str} {c : Nat} (h : oneSign w = some c) : w = ⟨#[c]⟩ := by
  unfold oneSign at h
  split at h
  · rename_i c' e
    cases h
    obtain ⟨wc⟩ := w
    obtain ⟨wl⟩ := wc
    have e' : wl = [c] := e
    rw [e']
  · cases h
def inStr : D → Str → M Bool
  | .str w, z => fun st => match oneSign w with
    | some c => some (decide (c ∈ z.cps.toList), st)
    | none => none
  | _, _ => fail
def inD (x y : D) : M Bool := match y with
  | .tup ys => inFlat x ys
  | .rot ys => inFlat x ys
  | .rol ys => inFlat x ys
  | .ref n => inRef x n
  | .str z => inStr x z
  | _ => fail
theorem flat_of {K : PySem.W.Frag} {ρ : List Addr} {H : Hp} {d : D} {v : V} (h : DR K ρ H d v) (f : flatD d = true) : flatV v = true := by
  cases d with
  | non => rw [h.non]; rfl
  | bl b => rw [h.bl]; rfl
  | int b => rw [h.int]; rfl
  | str b => rw [h.str]; rfl
  | _ => cases f
theorem eq1_of {K : PySem.W.Frag} {ρ : List Addr} {H : Hp} {d e : D} {v w : V} (h : DR K ρ H d v) (h' : DR K ρ H e w) (f : flatD d = true) (g : flatD e = true) : eqV v w = eq1 d e := by
  cases d with
  | non => rw [h.non]; cases e with
    | non => rw [h'.non]; rfl
    | bl b => rw [h'.bl]; rfl
    | int b => rw [h'.int]; rfl
    | str b => rw [h'.str]; rfl
    | _ => cases g
  | bl b => rw [h.bl]; cases e with
    | non => rw [h'.non]; rfl
    | bl b => rw [h'.bl]; rfl
    | int b => rw [h'.int]; rfl
    | str b => rw [h'.str]; rfl
    | _ => cases g
  | int b => rw [h.int]; cases e with
    | non => rw [h'.non]; rfl
    | bl b => rw [h'.bl]; rfl
    | int b => rw [h'.int]; rfl
    | str b => rw [h'.str]; rfl
    | _ => cases g
  | str b => rw [h.str]; cases e with
    | non => rw [h'.non]; rfl
    | bl b => rw [h'.bl]; rfl
    | int b => rw [h'.int]; rfl
    | str b => rw [h'.str]; rfl
    | _ => cases g
  | _ => cases f
theorem flats_of {K : PySem.W.Frag} {ρ : List Addr} {H : Hp} : ∀ {ds : List D} {vs : List V}, DRs K ρ H ds vs → ds.all flatD = true → vs.all flatV = true
  | [], _, h, _ => by rw [DRs] at h; subst h; rfl
  | d :: ds, _, h, f => by
    rw [DRs] at h
    obtain ⟨v, r, rfl, h1, h2⟩ := h
    rw [List.all_cons, Bool.and_eq_true] at f ⊢
    exact ⟨flat_of h1 f.1, flats_of h2 f.2⟩
theorem any_of {K : PySem.W.Frag} {ρ : List Addr} {H : Hp} {x : D} {w : V} (hx : DR K ρ H x w) (fx : flatD x = true) : ∀ {ds : List D} {vs : List V}, DRs K ρ H ds vs → ds.all flatD = true → inV w vs = ds.any fun z => eq1 z x
  | [], _, h, _ => by rw [DRs] at h; subst h; rfl
  | d :: ds, _, h, f => by
    rw [DRs] at h
    obtain ⟨v, r, rfl, h1, h2⟩ := h
    rw [List.all_cons, Bool.and_eq_true] at f
    have ih := any_of hx fx h2 f.2
    unfold inV at ih ⊢
    rw [List.any_cons, List.any_cons, ih, eq1_of h1 hx f.1 fx]
theorem keyD_of {K : PySem.W.Frag} {ρ : List Addr} {H : Hp} {d : D} {v : V} {k : Key} (h : DR K ρ H d v) (e : keyD d = some k) : v = kV k := by
  cases d with
  | int i => cases e; exact h.int
  | str i => cases e; exact h.str
  | _ => cases e
theorem KR.some_look {κ : Type} [DecidableEq κ] {K : PySem.W.Frag} {ρ : List Addr} {H : Hp} {ps : List (κ × D)} {ws : List (κ × V)} (h : KR K ρ H ps ws) (k : κ) : (valV ws k).isSome = (Mx.look ps k).isSome := by
  obtain ⟨l1, l2⟩ := h.look k
  cases q : Mx.look ps k with
  | none => rw [l2 q]; rfl
  | some z => obtain ⟨y, e, _⟩ := l1 z q; rw [e]; rfl
/-- what the three ways of «in» are asked for -/
def InR (T : List (Addr × Str)) (X : Cx) (op : CmpOp) (g : Bool → Bool) : Prop :=
  OpR X (compareOp op) (r2M T X.K fun x y => blM (do
    let b ← inD x y
    pure (g b)))
section
variable {X : Cx}
theorem in_core {op : CmpOp} {g : Bool → Bool} (h1 : OpR X (compareOp op) (fun x y H Q => ∃ p xs, y = .ref p ∧ (SqL X.K H p xs ∨ SqT X.K H p xs) ∧ flatV x = true ∧ xs.all flatV = true ∧ Q (.bl (g (inV x xs))) H))
    (h2 : OpR X (compareOp op) (fun x y H Q => ∃ d ds, Dp X.K H x d ∧ Dp X.K H y (.list ds) ∧ SeqAt.shaped d = true ∧ SeqAt.shaped (.list ds) = true ∧ Q (.bl (g (ds.any fun z => PyData.eqv z d))) H))
    (h3 : OpR X (compareOp op) (fun x y H Q => ∃ (c : Nat) (z : Str), x = .str ⟨#[c]⟩ ∧ y = .str z ∧ Q (.bl (g (decide (c ∈ z.cps.toList)))) H))
    (h4 : OpR X (compareOp op) (fun x y H Q => ∃ a o, y = .ref a ∧ DGet H a x o ∧ Q (.bl (g o.isSome)) H)) : InR T X op g := by
  intro pins s σ H x y v u Q I rx ry ⟨ρ, st, a, b, d, st', R, ha, hb, hg, k⟩
  obtain ⟨c, hc, rfl⟩ := blM_some hg
  obtain ⟨c0, s1, hc1, hc2⟩ := bind_some hc
  obtain ⟨rfl, rfl⟩ := pure_some hc2
  have flat : ∀ {ys : List D} {p : Addr} {vs : List V}, (SqL X.K H p vs ∨ SqT X.K H p vs) → DRs X.K ρ H ys vs → y = .ref p → inFlat a ys st = some (c0, st') → wpAny (model X.prog X.w) X.A (compareOp op v u) (EP X pins σ Q) X.xe s := by
    intro ys p vs q1 q2 ey hf
    obtain ⟨hz, hg1⟩ := guarded hf
    obtain ⟨rfl, rfl⟩ := pure_some hg1
    rw [Bool.and_eq_true] at hz
    exact h1 pins s σ H x _ v u Q I rx ry ⟨p, vs, ey, q1, flat_of ha hz.1, flats_of q2 hz.2, by rw [any_of ha hz.1 q2 hz.2]; exact k.now R (by rw [DR])⟩
  cases b with
  | tup ys =>
    obtain ⟨p, vs, e, q1, q2⟩ := hb.tup
    exact flat (.inr q1) q2 e hc1
  | rol ys =>
    obtain ⟨p, vs, e, q1, q2⟩ := hb.rol
    exact flat (.inl q1.sq) q2 e hc1
  | rot ys =>
    obtain ⟨p, vs, e, q1, q2⟩ := hb.rot
    exact flat (.inr q1) q2 e hc1
  | ref n =>
    have hc3 : inRef a n st = some (c0, st') := hc1
    have dict : ∀ kvs : List (Key × D), kvsOf st[n]? = some kvs → inDic a kvs st = some (c0, st') → wpAny (model X.prog X.w) X.A (compareOp op v u) (EP X pins σ Q) X.xe s := by
      intro kvs hn hf
      obtain ⟨p, ws, rfl, _, q1, q2⟩ := R.rdk hb hn
      unfold inDic at hf
      cases hk : keyD a with
      | none => rw [hk] at hf; cases hf
      | some ky =>
        rw [hk] at hf
        cases hf
        have e := keyD_of ha hk
        subst e
        refine h4 pins s σ H _ _ v u Q I rx ry ⟨p, _, rfl, .inl ⟨ws, ky, q1, rfl, rfl⟩, ?_⟩
        rw [q2.some_look ky]
        exact k.now R (by rw [DR])
    unfold inRef at hc3
    split at hc3
    · rename_i ys hn
      obtain ⟨p, vs, e, _, q1, q2⟩ := R.lst hb hn
      split at hc3
      · exact flat (.inl (SqL.of q1)) q2 e hc3
      · unfold inDeep at hc3
        split at hc3
        · rename_i pa qs hp hq
          cases hc3
          have P := toPy_ok R 64 a x pa ha hp
          have P' := toPy_ok R 64 (.ref n) y (.list qs) hb (by
            unfold toPy
            simp only [hn, hq])
          exact h2 pins s σ H x _ v u Q I rx ry ⟨pa, qs, P.dp, P'.dp, P.shaped (Nat.le_refl _), P'.shaped (Nat.le_refl _), k.now R (by rw [DR])⟩
        · cases hc3
    · rename_i kvs hn
      exact dict kvs (by rw [hn]; rfl) hc3
    · rename_i kvs hn
      exact dict kvs (by rw [hn]; rfl) hc3
    · rename_i kvs hn
      obtain ⟨p, ws, rfl, _, q1, q2⟩ := R.dit hb hn
      unfold inDit at hc3
      cases hk : keysD a with
      | none => rw [hk] at hc3; cases hc3
      | some ks =>
        rw [hk] at hc3
        cases hc3
        obtain ⟨b, rfl, e⟩ := keysD_of ha hk
        refine h4 pins s σ H _ _ v u Q I rx ry ⟨p, _, rfl, DGet.t q1 e, ?_⟩
        rw [q2.some_look ks]
        exact k.now R (by rw [DR])
    · cases hc3
  | str z =>
    have hc3 : inStr a z st = some (c0, st') := hc1
    cases a with
    | str w =>
      have hc4 : (match oneSign w with | some c => some (decide (c ∈ z.cps.toList), st) | none => none) = some (c0, st') := hc3
      cases q : oneSign w with
      | none => rw [q] at hc4; cases hc4
      | some cc =>
        rw [q] at hc4
        cases hc4
        have e := oneSign_some q
        subst e
        exact h3 pins s σ H x y v u Q I rx ry ⟨cc, z, ha.str, hb.str, k.now R (by rw [DR])⟩
    | _ => cases hc3
  | _ => cases hc1
theorem op_inDic (hu : X.A.units + 1 < cLine) : OpR X (compareOp .In) (fun x y H Q => ∃ a o, y = .ref a ∧ DGet H a x o ∧ Q (.bl o.isSome) H) := by
  intro pins s σ H x y v u Q I rx ry ⟨a, o, e, g, q⟩
  subst e
  obtain rfl : u = Value.ref a := ry
  exact d_in hu I g rx fun s1 I1 => ⟨.bl o.isSome, H, I1, rfl, q⟩
theorem op_notInDic (hu : X.A.units + 1 < cLine) : OpR X (compareOp .NotIn) (fun x y H Q => ∃ a o, y = .ref a ∧ DGet H a x o ∧ Q (.bl (!o.isSome)) H) := by
  intro pins s σ H x y v u Q I rx ry ⟨a, o, e, g, q⟩
  subst e
  obtain rfl : u = Value.ref a := ry
  exact d_notIn hu I g rx fun s1 I1 => ⟨.bl (!o.isSome), H, I1, rfl, q⟩
theorem op_inM (hu : X.A.units + 65 < cLine) : InR T X .In id := in_core op_in_seq (op_inD hu) op_in_sign (op_inDic (by omega))
theorem op_notInM (hu : X.A.units + 65 < cLine) : InR T X .NotIn not := in_core op_notIn_seq (op_notInD hu) op_notIn_sign (op_notInDic (by omega))
end

/-! ### subscripts -/
def atD (xs : List D) : D → Option D
  | .int i => atI xs i
  | _ => none
def ofO (o : Option D) : M D := fun st => match o with
  | some d => some (d, st)
  | none => none
def ixDic (kvs : List (Key × D)) (y : D) : M D := fun st => match keyD y with
  | some k => ofO (look kvs k) st
  | none => none
def ixRef (n : Nat) (y : D) : M D := fun st => match st[n]? with
  | some (.lst xs) => ofO (atD xs y) st
  | some (.dic kvs) => ixDic kvs y st
  | some (.dif kvs) => ixDic kvs y st
  | _ => none
def strAt (z : Str) : D → Option D
  | .int i => match atI z.cps.toList i with
    | some c => some (.str ⟨#[c]⟩)
    | none => none
  | _ => none
def ixD (x y : D) : M D := match x with
  | .tup xs => ofO (atD xs y)
  | .rot xs => ofO (atD xs y)
  | .rol xs => ofO (atD xs y)
  | .str z => do
    guardM (decide (z.length ≤ sizeLine))
    ofO (strAt z y)
  | .ref n => ixRef n y
  | _ => fail
theorem ofO_some {o : Option D} {st st' : S} {d : D} (h : ofO o st = some (d, st')) : o = some d ∧ st' = st := by
  unfold ofO at h
  split at h
  · cases h; exact ⟨rfl, rfl⟩
  · cases h
theorem atD_some {xs : List D} {y d : D} (h : atD xs y = some d) : ∃ i, y = .int i ∧ L2.atI xs i = some d := by
  cases y with
  | int i => exact ⟨i, rfl, h⟩
  | _ => cases h
theorem DRs.atI {K : PySem.W.Frag} {ρ : List Addr} {H : Hp} {ds : List D} {vs : List V} {i : Int} {d : D} (h : DRs K ρ H ds vs) (e : L2.atI ds i = some d) : ∃ v, L2.atI vs i = some v ∧ DR K ρ H d v := by
  unfold L2.atI at e ⊢
  rw [h.length]
  cases q : ixN ds.length i with
  | none => rw [q] at e; cases e
  | some j =>
    rw [q] at e
    exact h.get (show ds[j]? = some d from e)
section
variable {X : Cx}
theorem ix_dic (hu : X.A.units + 1 < cLine) : IxR X (fun x y H Q => ∃ a v, x = .ref a ∧ DGet H a y (some v) ∧ Q v H) := by
  intro value slice pins s σ H x y v u Q I rx ry ⟨a, w, e, g, q⟩ hs
  subst e
  obtain rfl : v = Value.ref a := rx
  exact PyProof.Rows.tail_any (dict_typeIs I g) PySem.F.slot_dict_getitem.lookup (d_getItem hu I g ry fun w' s3 I3 rw' => ⟨w, H, I3, rw', q⟩) hs
theorem ixM (hu : X.A.units + 1 < cLine) : IxR X (r2M T X.K ixD) := by
  intro value slice pins s σ H x y v u Q I rx ry ⟨ρ, st, a, b, d, st', R, ha, hb, hg, k⟩ hs
  cases a with
  | tup xs =>
    obtain ⟨hg1, rfl⟩ := ofO_some hg
    obtain ⟨i, rfl, hz⟩ := atD_some hg1
    obtain ⟨p, vs, rfl, q1, q2⟩ := ha.tup
    obtain ⟨w, e1, e2⟩ := q2.atI hz
    exact ix_tup value slice pins s σ H _ y v u Q I rx ry ⟨p, vs, _, w, rfl, hb.int, q1, e1, k.now R e2⟩ hs
  | rot xs =>
    obtain ⟨hg1, rfl⟩ := ofO_some hg
    obtain ⟨i, rfl, hz⟩ := atD_some hg1
    obtain ⟨p, vs, rfl, q1, q2⟩ := ha.rot
    obtain ⟨w, e1, e2⟩ := q2.atI hz
    exact ix_tup value slice pins s σ H _ y v u Q I rx ry ⟨p, vs, _, w, rfl, hb.int, q1, e1, k.now R e2⟩ hs
  | rol xs =>
    obtain ⟨hg1, rfl⟩ := ofO_some hg
    obtain ⟨i, rfl, hz⟩ := atD_some hg1
    obtain ⟨p, vs, rfl, q1, q2⟩ := ha.rol
    obtain ⟨w, e1, e2⟩ := q2.atI hz
    exact ix_list value slice pins s σ H _ y v u Q I rx ry ⟨p, vs, _, w, rfl, hb.int, q1.sq, e1, k.now R e2⟩ hs
  | str z =>
    obtain ⟨hz, hg1⟩ := guarded hg
    obtain ⟨hg2, rfl⟩ := ofO_some hg1
    cases b with
    | int i =>
      unfold strAt at hg2
      dsimp only at hg2
      split at hg2
      · rename_i c hc
        cases hg2
        exact ix_str value slice pins s σ H x y v u Q I rx ry ⟨_, _, c, ha.str, hb.int, of_decide_eq_true hz, hc, k.now R (by rw [DR])⟩ hs
      · cases hg2
    | _ => cases hg2
  | ref n =>
    have hg0 : ixRef n b st = some (d, st') := hg
    have dict : ∀ kvs : List (Key × D), kvsOf st[n]? = some kvs → ixDic kvs b st = some (d, st') → wpAny (model X.prog X.w) X.A (PyProof.Rows.subscriptTail value slice v u) (EP X pins σ Q) X.xe s := by
      intro kvs hn hf
      obtain ⟨p, ws, rfl, _, q1, q2⟩ := R.rdk ha hn
      unfold ixDic at hf
      cases hk : keyD b with
      | none => rw [hk] at hf; cases hf
      | some ky =>
        rw [hk] at hf
        have e := keyD_of hb hk
        subst e
        obtain ⟨hz, rfl⟩ := ofO_some hf
        obtain ⟨w, e1, e2⟩ := (q2.look ky).1 _ hz
        have g : DGet H p (kV ky) (some w) := .inl ⟨ws, ky, q1, rfl, e1.symm⟩
        exact ix_dic hu value slice pins s σ H _ _ v u Q I rx ry ⟨p, w, rfl, g, k.now R e2⟩ hs
    unfold ixRef at hg0
    split at hg0
    · rename_i xs hn
      obtain ⟨p, vs, rfl, _, q1, q2⟩ := R.lst ha hn
      obtain ⟨hg1, rfl⟩ := ofO_some hg0
      obtain ⟨i, rfl, hz⟩ := atD_some hg1
      obtain ⟨w, e1, e2⟩ := q2.atI hz
      exact ix_list value slice pins s σ H _ y v u Q I rx ry ⟨p, vs, _, w, rfl, hb.int, SqL.of q1, e1, k.now R e2⟩ hs
    · rename_i kvs hn
      exact dict kvs (by rw [hn]; rfl) hg0
    · rename_i kvs hn
      exact dict kvs (by rw [hn]; rfl) hg0
    · cases hg0
  | _ => cases hg
end

/-! ### slices -/
def cutD (xs : List D) (lo hi : Option Int) : List D := (xs.drop (HT.sIx xs.length 0 lo)).take (HT.sIx xs.length xs.length hi - HT.sIx xs.length 0 lo)
def slD (x : D) (lo hi : Option Int) : M D := match x with
  | .tup xs => pure (.tup (cutD xs lo hi))
  | .rol xs => new (.lst (cutD xs lo hi))
  | .ref n => do
    let xs ← lstAt n
    new (.lst (cutD xs lo hi))
  | _ => fail
theorem DRs.cut {K : PySem.W.Frag} {ρ : List Addr} {H : Hp} {ds : List D} {vs : List V} (lo hi : Option Int) (h : DRs K ρ H ds vs) : DRs K ρ H (cutD ds lo hi) (cutV vs lo hi) := by
  unfold cutD cutV
  rw [h.length]
  exact (h.drop _).take _
def rslM (T : List (Addr × Str)) (K : PySem.W.Frag) : V → Option Int → Option Int → Hp → VK → Prop := fun x lo hi H Q => ∃ (ρ : List Addr) (st : S) (a d : D) (st' : S), Rel T K ρ H st ∧ DR K ρ H a x ∧ slD a lo hi st = some (d, st') ∧ Post T K ρ H st' d Q
section
variable {X : Cx}
theorem slM : SlR X (rslM T X.K) := by
  intro pins s σ H x v vl vu lo hi sl Q I rx hs pl pu ⟨ρ, st, a, d, st', R, ha, hg, k⟩
  cases a with
  | tup xs =>
    obtain ⟨rfl, rfl⟩ := pure_some hg
    obtain ⟨p, vs, rfl, q1, q2⟩ := ha.tup
    refine sl_tupA pins s σ H _ v vl vu lo hi sl Q I rx hs pl pu ⟨p, vs, rfl, q1, fun e => ?_, fun _ => k.tup R (q2.cut lo hi)⟩
    have e0 : cutD xs lo hi = xs := by
      unfold cutD
      rw [← q2.length, e.1, e.2, List.drop_zero, Nat.sub_zero, q2.length]
      exact List.take_length
    rw [e0] at k
    exact k.now R ha
  | rol xs =>
    obtain ⟨p, vs, rfl, q1, q2⟩ := ha.rol
    cases hg
    exact sl_list pins s σ H _ v vl vu lo hi sl Q I rx hs pl pu ⟨p, vs, rfl, q1.sq, k.lst R (q2.cut lo hi)⟩
  | ref n =>
    obtain ⟨xs, s1, h1, hg1⟩ := bind_some hg
    obtain ⟨e1, rfl⟩ := lstAt_some h1
    obtain ⟨p, vs, rfl, _, q1, q2⟩ := R.lst ha e1
    cases hg1
    exact sl_list pins s σ H _ v vl vu lo hi sl Q I rx hs pl pu ⟨p, vs, rfl, SqL.of q1, k.lst R (q2.cut lo hi)⟩
  | _ => cases hg
end
end Mx


/-! Mx5: built-in functions by values. -/
namespace Mx
open PySem PySem.Spec L2
variable {T : List (Addr × Str)}

/-- the items of a list or tuple -/
def seqAt : D → M (List D)
  | .tup xs => pure xs
  | .rot xs => pure xs
  | .rol xs => pure xs
  | .ref n => lstAt n
  | _ => fail
theorem seqAt_some {K : PySem.W.Frag} {ρ : List Addr} {H : Hp} {st st' : S} {d : D} {v : V} {xs : List D} (R : Rel T K ρ H st) (hd : DR K ρ H d v) (h : seqAt d st = some (xs, st')) :
    st' = st ∧ ∃ a vs, v = .ref a ∧ (SqL K H a vs ∨ SqT K H a vs) ∧ DRs K ρ H xs vs := by
  cases d with
  | tup ys =>
    obtain ⟨rfl, rfl⟩ := pure_some h
    obtain ⟨a, vs, e, q1, q2⟩ := hd.tup
    exact ⟨rfl, a, vs, e, .inr q1, q2⟩
  | rot ys =>
    obtain ⟨rfl, rfl⟩ := pure_some h
    obtain ⟨a, vs, e, q1, q2⟩ := hd.rot
    exact ⟨rfl, a, vs, e, .inr q1, q2⟩
  | rol ys =>
    obtain ⟨rfl, rfl⟩ := pure_some h
    obtain ⟨a, vs, e, q1, q2⟩ := hd.rol
    exact ⟨rfl, a, vs, e, .inl q1.sq, q2⟩
  | ref n =>
    obtain ⟨e, rfl⟩ := lstAt_some h
    obtain ⟨a, vs, e, _, q1, q2⟩ := R.lst hd e
    exact ⟨rfl, a, vs, e, .inl (SqL.of q1), q2⟩
  | _ => cases h
/-- a list of the store or a locked one -/
def lolAt : D → M (List D)
  | .rol xs => pure xs
  | .ref n => lstAt n
  | _ => fail
theorem lolAt_some {K : PySem.W.Frag} {ρ : List Addr} {H : Hp} {st st' : S} {d : D} {v : V} {xs : List D} (R : Rel T K ρ H st) (hd : DR K ρ H d v) (h : lolAt d st = some (xs, st')) :
    st' = st ∧ ∃ a vs, v = .ref a ∧ SqL K H a vs ∧ DRs K ρ H xs vs := by
  cases d with
  | rol ys =>
    obtain ⟨rfl, rfl⟩ := pure_some h
    obtain ⟨a, vs, e, q1, q2⟩ := hd.rol
    exact ⟨rfl, a, vs, e, q1.sq, q2⟩
  | ref n =>
    obtain ⟨e, rfl⟩ := lstAt_some h
    obtain ⟨a, vs, e, _, q1, q2⟩ := R.lst hd e
    exact ⟨rfl, a, vs, e, SqL.of q1, q2⟩
  | _ => cases h
def boolsOf : List D → Option (List Bool)
  | [] => some []
  | .bl b :: r => match boolsOf r with
    | some bs => some (b :: bs)
    | none => none
  | _ => none
def intsOf : List D → Option (List Int)
  | [] => some []
  | .int b :: r => match intsOf r with
    | some bs => some (b :: bs)
    | none => none
  | _ => none
theorem boolsOf_some {K : PySem.W.Frag} {ρ : List Addr} {H : Hp} : ∀ {ds : List D} {vs : List V} {bs : List Bool}, DRs K ρ H ds vs → boolsOf ds = some bs → vs = bs.map V.bl
  | [], _, _, h, e => by rw [DRs] at h; subst h; cases e; rfl
  | d :: ds, _, bs, h, e => by
    rw [DRs] at h
    obtain ⟨v, r, rfl, h1, h2⟩ := h
    cases d with
    | bl b =>
      unfold boolsOf at e
      split at e
      · rename_i bs' hb
        cases e
        rw [h1.bl, boolsOf_some h2 hb]; rfl
      · cases e
    | _ => cases e
theorem intsOf_some {K : PySem.W.Frag} {ρ : List Addr} {H : Hp} : ∀ {ds : List D} {vs : List V} {bs : List Int}, DRs K ρ H ds vs → intsOf ds = some bs → vs = bs.map V.int
  | [], _, _, h, e => by rw [DRs] at h; subst h; cases e; rfl
  | d :: ds, _, bs, h, e => by
    rw [DRs] at h
    obtain ⟨v, r, rfl, h1, h2⟩ := h
    cases d with
    | int b =>
      unfold intsOf at e
      split at e
      · rename_i bs' hb
        cases e
        rw [h1.int, intsOf_some h2 hb]; rfl
      · cases e
    | _ => cases e

/-! ### types -/
def tyD (st : S) : D → Option Ty
  | .non => some .non
  | .bl _ => some .bool
  | .int _ => some .int
  | .str _ => some .str
  | .tup _ => some .tuple
  | .rot _ => some .tuple
  | .rol _ => some .list
  | .ref n => match st[n]? with
    | some (.lst _) => some .list
    | some (.dic _) => some .dict
    | some (.dit _) => some .dict
    | some (.dif _) => some .dict
    | none => none
  | .ty _ => none
def isTy (a b : Ty) : Bool := a == b || (a == .bool && b == .int)
theorem kit_isTy {K : PySem.W.Frag} (a b : Ty) : PySem.W.kitOne K (.type a.name) (.type b.name) = some (isTy a b) := by
  refine kit_ty ?_
  cases a <;> cases b <;> decide +kernel
theorem tyD_of {K : PySem.W.Frag} {ρ : List Addr} {H : Hp} {st : S} {d : D} {v : V} {t : Ty} (R : Rel T K ρ H st) (h : DR K ρ H d v) (e : tyD st d = some t) : TyX K H v (.type t.name) := by
  cases d with
  | non => cases e; rw [h.non]; exact .base .non
  | bl b => cases e; rw [h.bl]; exact .base (.bl b)
  | int b => cases e; rw [h.int]; exact .base (.int b)
  | str b => cases e; rw [h.str]; exact .base (.str b)
  | tup ds =>
    cases e
    obtain ⟨a, vs, rfl, q1, q2⟩ := h.tupS
    exact .base (.tup q1)
  | rot ds =>
    cases e
    obtain ⟨a, vs, rfl, q1, q2⟩ := h.rot
    rcases q1 with (q | ⟨o, q⟩) | ⟨o, its, n, q, c, _⟩
    · exact .base (.tup q)
    · exact .fTuple q
    · exact .kTuple q c
  | rol ds =>
    cases e
    obtain ⟨a, vs, rfl, q1, q2⟩ := h.rol
    rcases q1 with ⟨o, q⟩ | ⟨o, its, n, q, c, _⟩
    · exact .base (.frz q)
    · exact .kList q c
  | ref n =>
    unfold tyD at e
    dsimp only at e
    split at e
    · rename_i ds hn
      cases e
      obtain ⟨a, vs, rfl, _, q1, q2⟩ := R.lst h hn
      exact .base (.lst q1)
    · rename_i ds hn
      cases e
      obtain ⟨a, vs, rfl, _, q1, q2⟩ := R.dic h hn
      exact .base (.dK q1)
    · rename_i ds hn
      cases e
      obtain ⟨a, vs, rfl, _, q1, q2⟩ := R.dit h hn
      exact .base (.dT q1)
    · rename_i ds hn
      cases e
      rw [DR] at h
      obtain ⟨a, rfl, q1⟩ := h
      obtain ⟨ob, ws, q2, _⟩ := R.obj n a _ q1 hn
      exact .fDict q2
    · cases e
  | ty t => cases e
/-- the classes of a tuple of classes -/
def tysOf : List D → Option (List Ty)
  | [] => some []
  | .ty t :: r => match tysOf r with
    | some ts => some (t :: ts)
    | none => none
  | _ => none
def on1 (g : D → M D) : List D → M D
  | [x] => g x
  | _ => fail
def on2 (g : D → D → M D) : List D → M D
  | [x, y] => g x y
  | _ => fail
theorem on1_some {g : D → M D} {as : List D} {st st' : S} {d : D} (h : on1 g as st = some (d, st')) : ∃ x, as = [x] ∧ g x st = some (d, st') := by
  cases as with
  | nil => cases h
  | cons x r => cases r with
    | nil => exact ⟨x, rfl, h⟩
    | cons y r => cases h
theorem on2_some {g : D → D → M D} {as : List D} {st st' : S} {d : D} (h : on2 g as st = some (d, st')) : ∃ x y, as = [x, y] ∧ g x y st = some (d, st') := by
  cases as with
  | nil => cases h
  | cons x r => cases r with
    | nil => cases h
    | cons y r => cases r with
      | nil => exact ⟨x, y, rfl, h⟩
      | cons z r => cases h
def clsOf : D → Option (List Ty)
  | .ty t => some [t]
  | .tup cs => tysOf cs
  | _ => none
def isi1 (x c : D) : M D := fun st => match tyD st x, clsOf c with
  | some t, some ts => some (.bl (ts.any (isTy t)), st)
  | _, _ => none
theorem DR.ty {K : PySem.W.Frag} {ρ : List Addr} {H : Hp} {t : Ty} {v : V} (h : DR K ρ H (.ty t) v) : v = .ty t.name := by rw [DR] at h; exact h
theorem tysOf_some {K : PySem.W.Frag} {ρ : List Addr} {H : Hp} {t : Ty} : ∀ {ds : List D} {vs : List V} {ts : List Ty}, DRs K ρ H ds vs → tysOf ds = some ts → Paired ClsV vs (ts.map fun c => Value.type c.name) ∧ PySem.W.kitAny K (.type t.name) (ts.map fun c => Value.type c.name) = some (ts.any (isTy t))
  | [], _, _, h, e => by rw [DRs] at h; subst h; cases e; exact ⟨.nil, rfl⟩
  | d :: ds, _, bs, h, e => by
    rw [DRs] at h
    obtain ⟨v, r, rfl, h1, h2⟩ := h
    cases d with
    | ty b =>
      unfold tysOf at e
      split at e
      · rename_i bs' hb
        cases e
        obtain ⟨i1, i2⟩ := tysOf_some (t := t) h2 hb
        refine ⟨.cons (by rw [h1.ty]; exact .ty _) i1, ?_⟩
        rw [List.map_cons, List.any_cons]
        refine kitAny_cons (kit_isTy t b) (fun z => by rw [z]; exact i2) (fun z => by rw [z]; rfl)
      · cases e
    | _ => cases e
theorem DRs.one {K : PySem.W.Frag} {ρ : List Addr} {H : Hp} {d : D} {vs : List V} (h : DRs K ρ H [d] vs) : ∃ v, vs = [v] ∧ DR K ρ H d v := by
  rw [DRs] at h
  obtain ⟨v, r, rfl, h1, h2⟩ := h
  rw [DRs] at h2; subst h2
  exact ⟨v, rfl, h1⟩
theorem DRs.two {K : PySem.W.Frag} {ρ : List Addr} {H : Hp} {d e : D} {vs : List V} (h : DRs K ρ H [d, e] vs) : ∃ v w, vs = [v, w] ∧ DR K ρ H d v ∧ DR K ρ H e w := by
  rw [DRs] at h
  obtain ⟨v, r, rfl, h1, h2⟩ := h
  obtain ⟨w, rfl, h3⟩ := h2.one
  exact ⟨v, w, rfl, h1, h3⟩
section
variable {X : Cx}
theorem call_isiM : CallR X (.builtin "isinstance") (rnM T X.K (on2 isi1)) := by
  intro pins s σ H xs us Q I rs ⟨ρ, st, as, d, st', R, ha, hg, k⟩
  obtain ⟨x, c, rfl, hg1⟩ := on2_some hg
  obtain ⟨v, w, rfl, h1, h2⟩ := ha.two
  unfold isi1 at hg1
  split at hg1
  · rename_i t ts ht hts
    cases hg1
    cases c with
    | ty c =>
      cases hts
      exact call_isi pins s σ H _ us Q I rs ⟨v, w, _, _, _, rfl, by rw [h2.ty]; exact .ty _, tyD_of R h1 ht, kit_isTy t c, k.now R (by rw [DR]; simp)⟩
    | tup cs =>
      have hts' : tysOf cs = some ts := hts
      obtain ⟨p, vs, rfl, q1, q2⟩ := h2.tup
      obtain ⟨i1, i2⟩ := tysOf_some (t := t) q2 hts'
      obtain ⟨u1, u2, rfl, r1, r2⟩ := vals2 rs
      cases (show u2 = Value.ref p from r2)
      obtain ⟨its, rv, ⟨⟨oc, od, dt, sl⟩, g1, g2, n, g3⟩, _⟩ := I.tuple q1
      have g2' : oc = .type "tuple" := g2
      have g3' : dt = .seq its.toArray n := g3
      subst g2' g3'
      have e3 := ClsV.all i1 rv
      obtain ⟨P, Z, pp, hx⟩ := kit_of I r1 (tyD_of R h1 ht)
      rw [e3] at g1
      exact PySem.W.kia_tup Z I.kIn pp g1 i2 hx fun tk => ⟨.bl _, H, I.tok tk, rfl, k.now R (by rw [DR])⟩
    | _ => cases hts
  · cases hg1

/-! ### functions of sequences -/
def lenD : D → M D
  | .str z => do
    guardM (decide (z.length ≤ sizeLine))
    pure (.int z.length)
  | .tup xs => pure (.int xs.length)
  | .rot xs => pure (.int xs.length)
  | .rol xs => pure (.int xs.length)
  | .ref n => fun st => match st[n]? with
    | some (.lst xs) => some (.int xs.length, st)
    | some (.dic kvs) => some (.int kvs.length, st)
    | some (.dif kvs) => some (.int kvs.length, st)
    | _ => none
  | _ => fail
theorem call_lenR : CallR X (.builtin "len") (fun xs H Q => ∃ (a : Addr) (kvs : List (Key × V)), xs = [.ref a] ∧ Rd H a (.dK kvs) ∧ Q (.int kvs.length) H) := by
  intro pins s σ H xs us Q I rs ⟨a, kvs, e, g, q⟩
  subst e
  cases rs with
  | cons r rr =>
    cases rr
    cases r
    exact d_len I g fun t s' I' => ⟨.int kvs.length, H, I', ⟨t, rfl⟩, q⟩
theorem call_lenM : CallR X (.builtin "len") (rnM T X.K (on1 lenD)) := by
  intro pins s σ H xs us Q I rs ⟨ρ, st, as, d, st', R, ha, hg, k⟩
  obtain ⟨x, rfl, hg1⟩ := on1_some hg
  obtain ⟨v, rfl, h1⟩ := ha.one
  cases x with
  | str z =>
    obtain ⟨hz, hg2⟩ := guarded hg1
    obtain ⟨rfl, rfl⟩ := pure_some hg2
    exact call_len_str pins s σ H _ us Q I rs ⟨z, by rw [h1.str], of_decide_eq_true hz, k.now R (by rw [DR])⟩
  | tup xs =>
    obtain ⟨rfl, rfl⟩ := pure_some hg1
    obtain ⟨p, vs, rfl, q1, q2⟩ := h1.tup
    exact call_len_seq pins s σ H _ us Q I rs ⟨p, vs, rfl, .inr q1, by rw [q2.length]; exact k.now R (by rw [DR])⟩
  | rot xs =>
    obtain ⟨rfl, rfl⟩ := pure_some hg1
    obtain ⟨p, vs, rfl, q1, q2⟩ := h1.rot
    exact call_len_seq pins s σ H _ us Q I rs ⟨p, vs, rfl, .inr q1, by rw [q2.length]; exact k.now R (by rw [DR])⟩
  | rol xs =>
    obtain ⟨rfl, rfl⟩ := pure_some hg1
    obtain ⟨p, vs, rfl, q1, q2⟩ := h1.rol
    exact call_len_seq pins s σ H _ us Q I rs ⟨p, vs, rfl, .inl q1.sq, by rw [q2.length]; exact k.now R (by rw [DR])⟩
  | ref n =>
    have hg2 : (match st[n]? with | some (.lst xs) => some (D.int xs.length, st) | some (.dic kvs) => some (D.int kvs.length, st) | some (.dif kvs) => some (D.int kvs.length, st) | _ => none) = some (d, st') := hg1
    split at hg2
    · rename_i ys hn
      cases hg2
      obtain ⟨p, vs, rfl, _, q1, q2⟩ := R.lst h1 hn
      exact call_len_seq pins s σ H _ us Q I rs ⟨p, vs, rfl, .inl (SqL.of q1), by rw [q2.length]; exact k.now R (by rw [DR])⟩
    · rename_i kvs hn
      cases hg2
      obtain ⟨p, ws, rfl, _, q1, q2⟩ := R.rdk h1 (show kvsOf st[n]? = some kvs by rw [hn]; rfl)
      exact call_lenR pins s σ H _ us Q I rs ⟨p, ws, rfl, q1, by rw [q2.length]; exact k.now R (by rw [DR])⟩
    · rename_i kvs hn
      cases hg2
      obtain ⟨p, ws, rfl, _, q1, q2⟩ := R.rdk h1 (show kvsOf st[n]? = some kvs by rw [hn]; rfl)
      exact call_lenR pins s σ H _ us Q I rs ⟨p, ws, rfl, q1, by rw [q2.length]; exact k.now R (by rw [DR])⟩
    · cases hg2
  | _ => cases hg1
def allD (x : D) : M D := do
  let xs ← lolAt x
  match boolsOf xs with
    | some bs => pure (.bl (bs.all id))
    | none => fail
def anyD (x : D) : M D := do
  let xs ← lolAt x
  match boolsOf xs with
    | some bs => pure (.bl (bs.any id))
    | none => fail
theorem call_allM (hc : X.calm = true) : CallR X (.builtin "all") (rnM T X.K (on1 allD)) := by
  intro pins s σ H xs us Q I rs ⟨ρ, st, as, d, st', R, ha, hg, k⟩
  obtain ⟨x, rfl, hg1⟩ := on1_some hg
  obtain ⟨v, rfl, h1⟩ := ha.one
  obtain ⟨ys, s1, e1, hg2⟩ := bind_some hg1
  obtain ⟨rfl, p, vs, rfl, q1, q2⟩ := lolAt_some R h1 e1
  cases hb : boolsOf ys with
  | none => rw [hb] at hg2; cases hg2
  | some bs =>
    rw [hb] at hg2
    obtain ⟨rfl, rfl⟩ := pure_some hg2
    exact cr_all hc pins s σ H _ us Q I rs ⟨p, bs, rfl, by rw [← boolsOf_some q2 hb]; exact q1, k.now R (by rw [DR])⟩
theorem call_anyM (hc : X.calm = true) : CallR X (.builtin "any") (rnM T X.K (on1 anyD)) := by
  intro pins s σ H xs us Q I rs ⟨ρ, st, as, d, st', R, ha, hg, k⟩
  obtain ⟨x, rfl, hg1⟩ := on1_some hg
  obtain ⟨v, rfl, h1⟩ := ha.one
  obtain ⟨ys, s1, e1, hg2⟩ := bind_some hg1
  obtain ⟨rfl, p, vs, rfl, q1, q2⟩ := lolAt_some R h1 e1
  cases hb : boolsOf ys with
  | none => rw [hb] at hg2; cases hg2
  | some bs =>
    rw [hb] at hg2
    obtain ⟨rfl, rfl⟩ := pure_some hg2
    exact cr_any hc pins s σ H _ us Q I rs ⟨p, bs, rfl, by rw [← boolsOf_some q2 hb]; exact q1, k.now R (by rw [DR])⟩
def seqNew : D → M (List D)
  | .tup xs => pure xs
  | .rol xs => pure xs
  | .ref n => lstAt n
  | _ => fail
def tupleD (x : D) : M D := do
  let xs ← seqNew x
  pure (.tup xs)
theorem call_tupleM : CallR X (.type "tuple") (rnM T X.K (on1 tupleD)) := by
  intro pins s σ H xs us Q I rs ⟨ρ, st, as, d, st', R, ha, hg, k⟩
  obtain ⟨x, rfl, hg1⟩ := on1_some hg
  obtain ⟨v, rfl, h1⟩ := ha.one
  obtain ⟨ys, s1, e1, hg2⟩ := bind_some hg1
  obtain ⟨rfl, rfl⟩ := pure_some hg2
  cases x with
  | tup zs =>
    obtain ⟨rfl, rfl⟩ := pure_some e1
    obtain ⟨p, vs, rfl, q1, q2⟩ := h1.tup
    exact call_tuple_of pins s σ H _ us Q I rs ⟨p, vs, rfl, .inr ⟨q1, k.now R h1⟩⟩
  | rot zs => cases e1
  | rol zs =>
    obtain ⟨rfl, rfl⟩ := pure_some e1
    obtain ⟨p, vs, rfl, q1, q2⟩ := h1.rol
    exact call_tuple_of pins s σ H _ us Q I rs ⟨p, vs, rfl, .inl ⟨q1.sq, k.tup R q2⟩⟩
  | ref n =>
    obtain ⟨e, rfl⟩ := lstAt_some e1
    obtain ⟨p, vs, rfl, _, q1, q2⟩ := R.lst h1 e
    exact call_tuple_of pins s σ H _ us Q I rs ⟨p, vs, rfl, .inl ⟨SqL.of q1, k.tup R q2⟩⟩
  | _ => cases e1
def listD (x : D) : M D := do
  let xs ← seqAt x
  new (.lst xs)
theorem call_listM : CallR X (.type "list") (rnM T X.K (on1 listD)) := by
  intro pins s σ H xs us Q I rs ⟨ρ, st, as, d, st', R, ha, hg, k⟩
  obtain ⟨x, rfl, hg1⟩ := on1_some hg
  obtain ⟨v, rfl, h1⟩ := ha.one
  obtain ⟨ys, s1, e1, hg2⟩ := bind_some hg1
  obtain ⟨rfl, p, vs, rfl, q1, q2⟩ := seqAt_some R h1 e1
  cases hg2
  exact call_list_of pins s σ H _ us Q I rs ⟨p, vs, rfl, q1, k.lst R q2⟩
def absD : D → M D
  | .int i => pure (.int (if i < 0 then -i else i))
  | _ => fail
theorem call_absM : CallR X (.builtin "abs") (rnM T X.K (on1 absD)) := by
  intro pins s σ H xs us Q I rs ⟨ρ, st, as, d, st', R, ha, hg, k⟩
  obtain ⟨x, rfl, hg1⟩ := on1_some hg
  obtain ⟨v, rfl, h1⟩ := ha.one
  cases x with
  | int i =>
    obtain ⟨rfl, rfl⟩ := pure_some hg1
    exact call_abs pins s σ H _ us Q I rs ⟨i, by rw [h1.int], k.now R (by rw [DR])⟩
  | _ => cases hg1
def intD : D → M D
  | .int i => pure (.int i)
  | _ => fail
theorem call_intM : CallR X (.type "int") (rnM T X.K (on1 intD)) := by
  intro pins s σ H xs us Q I rs ⟨ρ, st, as, d, st', R, ha, hg, k⟩
  obtain ⟨x, rfl, hg1⟩ := on1_some hg
  obtain ⟨v, rfl, h1⟩ := ha.one
  cases x with
  | int i =>
    obtain ⟨rfl, rfl⟩ := pure_some hg1
    exact call_int1 pins s σ H _ us Q I rs (.inl ⟨i, by rw [h1.int], k.now R (by rw [DR])⟩)
  | _ => cases hg1
def strD : D → M D
  | .int i => do
    guardM (decide (i.natAbs.log2 < 1920))
    pure (.str (toString i))
  | _ => fail
theorem call_strM : CallR X (.type "str") (rnM T X.K (on1 strD)) := by
  intro pins s σ H xs us Q I rs ⟨ρ, st, as, d, st', R, ha, hg, k⟩
  obtain ⟨x, rfl, hg1⟩ := on1_some hg
  obtain ⟨v, rfl, h1⟩ := ha.one
  cases x with
  | int i =>
    obtain ⟨hz, hg2⟩ := guarded hg1
    obtain ⟨rfl, rfl⟩ := pure_some hg2
    exact call_str_int pins s σ H _ us Q I rs ⟨i, by rw [h1.int], of_decide_eq_true hz, k.now R (by rw [DR])⟩
  | _ => cases hg1
def maxI : List Int → Int
  | [] => 0
  | x :: r => r.foldl max x
theorem foldl_max_mem : ∀ (r : List Int) (x : Int), r.foldl max x ∈ x :: r ∧ ∀ y ∈ x :: r, y ≤ r.foldl max x
  | [], x => ⟨by simp, by simp⟩
  | z :: r, x => by
    obtain ⟨h1, h2⟩ := foldl_max_mem r (max x z)
    rw [List.foldl_cons]
    refine ⟨?_, fun y hy => ?_⟩
    · rcases List.mem_cons.mp h1 with e | e
      · rw [e]
        rcases Int.le_total x z with q | q
        · rw [Int.max_eq_right q]; simp
        · rw [Int.max_eq_left q]; simp
      · simp [e]
    · have hb := h2 (max x z) (by simp)
      rcases List.mem_cons.mp hy with e | e
      · rw [e]; exact Int.le_trans (Int.le_max_left _ _) hb
      · rcases List.mem_cons.mp e with e | e
        · rw [e]; exact Int.le_trans (Int.le_max_right _ _) hb
        · exact h2 y (by simp [e])
def maxD (x : D) : M D := do
  let xs ← lolAt x
  match intsOf xs with
    | some (b :: bs) => pure (.int (maxI (b :: bs)))
    | _ => fail
theorem call_maxM (hc : X.calm = true) : CallR X (.builtin "max") (rnM T X.K (on1 maxD)) := by
  intro pins s σ H xs us Q I rs ⟨ρ, st, as, d, st', R, ha, hg, k⟩
  obtain ⟨x, rfl, hg1⟩ := on1_some hg
  obtain ⟨v, rfl, h1⟩ := ha.one
  obtain ⟨ys, s1, e1, hg2⟩ := bind_some hg1
  obtain ⟨rfl, p, vs, rfl, q1, q2⟩ := lolAt_some R h1 e1
  cases hb : intsOf ys with
  | none => rw [hb] at hg2; cases hg2
  | some bs =>
    rw [hb] at hg2
    cases bs with
    | nil => cases hg2
    | cons b bs =>
      obtain ⟨rfl, rfl⟩ := pure_some hg2
      refine cr_max hc pins s σ H _ us Q I rs ⟨p, b :: bs, rfl, by rw [← intsOf_some q2 hb]; exact q1, Nat.succ_pos _, fun m hm hall => ?_⟩
      obtain ⟨f1, f2⟩ := foldl_max_mem bs b
      have e : m = maxI (b :: bs) := Int.le_antisymm (f2 m hm) (hall _ f1)
      rw [e]
      exact k.now R (by rw [DR])
def minD : D → D → M D
  | .int i, .int j => pure (.int (if j < i then j else i))
  | _, _ => fail
theorem call_minM (hc : X.calm = true) : CallR X (.builtin "min") (rnM T X.K (on2 minD)) := by
  intro pins s σ H xs us Q I rs ⟨ρ, st, as, d, st', R, ha, hg, k⟩
  obtain ⟨x, y, rfl, hg1⟩ := on2_some hg
  obtain ⟨v, w, rfl, h1, h2⟩ := ha.two
  cases x with
  | int i => cases y with
    | int j =>
      obtain ⟨rfl, rfl⟩ := pure_some hg1
      exact call_min2 hc pins s σ H _ us Q I rs ⟨i, j, by rw [h1.int, h2.int], k.now R (by rw [DR])⟩
    | _ => cases hg1
  | _ => cases y <;> cases hg1
def dictD : D → M D
  | .ref n => do
    let kvs ← dicAt n
    new (.dic kvs)
  | _ => fail
theorem call_dictM : CallR X (.type "dict") (rnM T X.K (on1 dictD)) := by
  intro pins s σ H xs us Q I rs ⟨ρ, st, as, d, st', R, ha, hg, k⟩
  obtain ⟨x, rfl, hg1⟩ := on1_some hg
  obtain ⟨v, rfl, h1⟩ := ha.one
  cases x with
  | ref n =>
    obtain ⟨kvs, s1, e1, hg2⟩ := bind_some hg1
    obtain ⟨e, rfl⟩ := dicAt_some e1
    obtain ⟨p, ws, rfl, _, q1, q2⟩ := R.rdk h1 e
    cases hg2
    exact call_dictD pins s σ H _ us Q I rs ⟨p, ws, rfl, q1, k.dic R q2⟩
  | _ => cases hg1
end
end Mx


/-! Mx6: expressions by the store: one rule a form, each over the readings eM, tM, aM. -/
namespace Mx
open PySem PySem.Spec L2
variable {T : List (Addr × Str)}

section
variable {X : Cx} {K : PySem.W.Frag} {ρ : List Addr} {H : Hp} {st : S} {σ : St} {es : Es}
theorem PE.as {e : Expr} {t t' : TE} (h : PE X e t) (i : ∀ σ H Q, t' σ H Q → t σ H Q) : PE X e t' := ⟨fun pins s σ H Q I q => h.run pins s σ H Q I (i σ H Q q)⟩
theorem PT.as {e : Expr} {t t' : TT} (h : PT X e t) (i : ∀ σ H Q, t' σ H Q → t σ H Q) : PT X e t' := ⟨fun pins s σ H Q I q => h.run pins s σ H Q I (i σ H Q q)⟩
theorem PW.as {e : Expr} {t t' : TT} (h : PW X e t) (i : ∀ σ H Q, t' σ H Q → t σ H Q) : PW X e t' := ⟨fun w pins s σ H Q I q => h.run w pins s σ H Q I (i σ H Q q)⟩
theorem PA.as {e : List Expr} {t t' : TA} (h : PA X e t) (i : ∀ σ H Q, t' σ H Q → t σ H Q) : PA X e t' := ⟨fun pos pins s σ H Q I q => h.run pos pins s σ H Q I (i σ H Q q)⟩
theorem PK.as {e : List Keyword} {t t' : TA} (h : PK X e t) (i : ∀ σ H Q, t' σ H Q → t σ H Q) : PK X e t' := ⟨fun pos pins s σ H Q I q => h.run pos pins s σ H Q I (i σ H Q q)⟩
end

/-! ### names and constants -/
def varD (i : Nat) (es : Es) : M D := fun st => match es[i]? with
  | some (some d) => some (d, st)
  | _ => none
theorem varD_some {i : Nat} {es : Es} {st st' : S} {d : D} (h : varD i es st = some (d, st')) : es[i]? = some (some d) ∧ st' = st := by
  unfold varD at h
  split at h
  · cases h; exact ⟨by assumption, rfl⟩
  · cases h
def cD (d : D) : Es → M D := fun _ => pure d
section
variable {X : Cx} {pos : Pos}
theorem mvar (i : Nat) {x : Str} (hN : X.N[i]? = some x := by rfl) (hv : Vis X.env.scope x := by first | exact Or.inl rfl | exact Or.inr (Or.inl rfl) | exact Or.inr (Or.inr rfl)) (hd : (x == ("__debug__" : Str)) = false := by decide)
    (hcd : (x == ("__classdict__" : Str)) = false := by decide) : PE X (.Name x pos) (eM T X.K (varD i)) :=
  PE.as (pe_var hN hv hd hcd) fun σ H Q ⟨ρ, st, es, d, st', R, E, hm, k⟩ => by
    obtain ⟨h1, rfl⟩ := varD_some hm
    obtain ⟨v, h2, h3⟩ := E.2 i d h1
    exact ⟨v, h2, k.now R h3⟩
/-- a value that stands for d in every world -/
def Std (K : PySem.W.Frag) (d : D) (v : V) : Prop := ∀ ρ H, DR K ρ H d v
theorem mcon {e : Expr} {d : D} {v : V} (h : PE X e (tC v)) (hd : Std X.K d v) : PE X e (eM T X.K (cD d)) :=
  PE.as h fun σ H Q ⟨ρ, st, es, d', st', R, E, hm, k⟩ => by
    obtain ⟨rfl, rfl⟩ := pure_some hm
    exact k.now R (hd ρ H)
theorem std_int {K : PySem.W.Frag} {i : Int} : Std K (.int i) (.int i) := fun _ _ => by rw [DR]
theorem std_str {K : PySem.W.Frag} {i : Str} : Std K (.str i) (.str i) := fun _ _ => by rw [DR]
theorem std_bl {K : PySem.W.Frag} {i : Bool} : Std K (.bl i) (.bl i) := fun _ _ => by rw [DR]
theorem std_non {K : PySem.W.Frag} : Std K .non .non := fun _ _ => by rw [DR]
theorem std_ty {K : PySem.W.Frag} {t : Ty} : Std K (.ty t) (.ty t.name) := fun _ _ => by rw [DR]
theorem mint {i : Int} {j} : PE X (.Constant (.int i) j pos) (eM T X.K (cD (.int i))) := mcon pe_int std_int
theorem mstr {i : Str} {j} : PE X (.Constant (.str i) j pos) (eM T X.K (cD (.str i))) := mcon pe_str std_str
theorem mbl {i : Bool} {j} : PE X (.Constant (.bool i) j pos) (eM T X.K (cD (.bl i))) := mcon pe_bl std_bl
theorem mnon {j} : PE X (.Constant .none j pos) (eM T X.K (cD .non)) := mcon pe_non std_non
/-- a built-in class as a value -/
theorem mty (t : Ty) {x : Str} (hg : Gl X x) (hm : X.mg x = none) (hv : bootBuiltins x = some (.type t.name) := by rfl) (hn : x ≠ "__name__" := by decide) (hd : (x == ("__debug__" : Str)) = false := by decide) : PE X (.Name x pos) (eM T X.K (cD (.ty t))) :=
  mcon (pe_bltn hg hm hv (v := .ty t.name) rfl hn hd) std_ty
/-- a constant of the module -/
theorem mglob {x : Str} {d : D} {v : V} {u : Value} (hg : Gl X x) (hm : X.mg x = some u) (r : RelV v u) (hd : Std X.K d v) (hdb : (x == ("__debug__" : Str)) = false := by decide) : PE X (.Name x pos) (eM T X.K (cD d)) := mcon (pe_glob hg hm r hdb) hd
end

/-! ### operators -/
def opD (g : D → D → M D) (a b : Es → M D) : Es → M D := fun es => do
  let x ← a es
  let y ← b es
  g x y
def unD (g : D → M D) (a : Es → M D) : Es → M D := fun es => do
  let x ← a es
  g x
theorem two_of {K : PySem.W.Frag} {r : R2} {g : D → D → M D} (hr : ∀ x y H Q, r2M T K g x y H Q → r x y H Q) {a b : Es → M D} {σ : St} {H : Hp} {Q : VK} (h : eM T K (opD g a b) σ H Q) : tOp r (eM T K a) (eM T K b) σ H Q := by
  obtain ⟨ρ, st, es, d, st', R, E, hm, k⟩ := h
  obtain ⟨x, s1, h1, hm⟩ := bind_some hm
  obtain ⟨y, s2, h2, h3⟩ := bind_some hm
  refine ⟨ρ, st, es, x, s1, R, E, h1, fun ρ1 v1 H1 e1 R1 d1 => ⟨ρ1, s1, es, y, s2, R1, E.ext R e1, h2, fun ρ2 v2 H2 e2 R2 d2 => hr _ _ _ _ ⟨ρ2, s2, x, y, d, st', R2, DR.ext R1 e2 _ _ d1, d2, h3, fun ρ3 v3 H3 e3 R3 d3 => ?_⟩⟩⟩
  exact k ρ3 v3 H3 ((e1.trans e2).trans e3) R3 d3
theorem one_of {K : PySem.W.Frag} {r : V → Hp → VK → Prop} {g : D → M D} (hr : ∀ x H Q, r1M T K g x H Q → r x H Q) {a : Es → M D} {σ : St} {H : Hp} {Q : VK} (h : eM T K (unD g a) σ H Q) : tUn r (eM T K a) σ H Q := by
  obtain ⟨ρ, st, es, d, st', R, E, hm, k⟩ := h
  obtain ⟨x, s1, h1, h3⟩ := bind_some hm
  exact ⟨ρ, st, es, x, s1, R, E, h1, fun ρ1 v1 H1 e1 R1 d1 => hr _ _ _ ⟨ρ1, s1, x, d, st', R1, d1, h3, fun ρ3 v3 H3 e3 R3 d3 => k ρ3 v3 H3 (e1.trans e3) R3 d3⟩⟩
section
variable {X : Cx} {pos p2 : Pos} {a b c : Expr} {ma mb mc : Es → M D}
theorem mbin (o : Operator) (ha : PE X a (eM T X.K ma)) (hb : PE X b (eM T X.K mb)) : PE X (.BinOp a o b pos) (eM T X.K (opD (binD o) ma mb)) :=
  PE.as (pe_op (op_binM o) ha hb) fun _ _ _ h => two_of (fun _ _ _ _ q => q) h
theorem mneg (ha : PE X a (eM T X.K ma)) : PE X (.UnaryOp .USub a pos) (eM T X.K (unD negD ma)) :=
  PE.as (pe_un un_negM ha) fun _ _ _ h => one_of (fun _ _ _ q => q) h
theorem mcmp {op : CmpOp} {g : D → D → M D} (ho : OpR X (compareOp op) (r2M T X.K g)) (ha : PE X a (eM T X.K ma)) (hb : PE X b (eM T X.K mb)) (hm : behindInMarks op b = false := by first | exact nomark _ | with_unfolding_all rfl) : PE X (.Compare a [op] [b] pos) (eM T X.K (opD g ma mb)) :=
  PE.as (pe_cmpR ho ha hb hm) fun _ _ _ h => two_of (fun _ _ _ _ q => q) h
theorem mix (hu : X.A.units + 1 < cLine) (ha : PE X a (eM T X.K ma)) (hb : PE X b (eM T X.K mb)) (hs : PlainIx b := by intro _ _; rfl) : PE X (.Subscript a b pos) (eM T X.K (opD ixD ma mb)) :=
  PE.as (pe_ix (ixM hu) ha hb hs) fun _ _ _ h => two_of (fun _ _ _ _ q => q) h
/-- a op b op' c -/
def chD (g g' : D → D → M D) (a b c : Es → M D) : Es → M D := fun es => do
  let x ← a es
  let y ← b es
  let z ← g x y
  match z with
    | .bl true => do
      let w ← c es
      g' y w
    | .bl false => pure (.bl false)
    | _ => fail
theorem mchain {op op' : CmpOp} {g g' : D → D → M D} (ho : OpR X (compareOp op) (r2M T X.K g)) (ho' : OpR X (compareOp op') (r2M T X.K g')) (ha : PE X a (eM T X.K ma)) (hb : PE X b (eM T X.K mb)) (hc : PE X c (eM T X.K mc))
    (hm : lastMarks [op, op'] [b, c] = false := by with_unfolding_all rfl) : PE X (.Compare a [op, op'] [b, c] pos) (eM T X.K (chD g g' ma mb mc)) :=
  PE.as (pe_chain ho ho' ha hb hc hm) fun σ H Q h => by
    obtain ⟨ρ, st, es, d, st', R, E, hm, k⟩ := h
    obtain ⟨x, s1, h1, hm1⟩ := bind_some hm
    obtain ⟨y, s2, h2, hm2⟩ := bind_some hm1
    obtain ⟨z, s3, h3, hm3⟩ := bind_some hm2
    refine ⟨ρ, st, es, x, s1, R, E, h1, fun ρ1 v1 H1 e1 R1 d1 => ⟨ρ1, s1, es, y, s2, R1, E.ext R e1, h2, fun ρ2 v2 H2 e2 R2 d2 => ⟨ρ2, s2, x, y, z, s3, R2, DR.ext R1 e2 _ _ d1, d2, h3, fun ρ3 v3 H3 e3 R3 d3 => ?_⟩⟩⟩
    cases z with
    | bl q =>
      refine ⟨q, d3.bl, ?_⟩
      cases q with
      | false =>
        obtain ⟨rfl, rfl⟩ := pure_some hm3
        rw [if_neg Bool.false_ne_true]
        exact k ρ3 _ H3 ((e1.trans e2).trans e3) R3 (by rw [DR])
      | true =>
        obtain ⟨w, s4, h4, h5⟩ := bind_some hm3
        rw [if_pos rfl]
        refine ⟨ρ3, s3, es, w, s4, R3, E.ext R ((e1.trans e2).trans e3), h4, fun ρ4 v4 H4 e4 R4 d4 => ⟨ρ4, s4, y, w, d, st', R4, DR.ext R2 (e3.trans e4) _ _ d2, d4, h5, fun ρ5 v5 H5 e5 R5 d5 => ?_⟩⟩
        exact k ρ5 v5 H5 ((((e1.trans e2).trans e3).trans e4).trans e5) R5 d5
    | _ => cases hm3
end

/-! ### and, or, not, if -/
def bOf : D → M Bool
  | .bl b => pure b
  | _ => fail
theorem bOf_some {d : D} {st st' : S} {b : Bool} (h : bOf d st = some (b, st')) : d = .bl b ∧ st' = st := by
  cases d with
  | bl q => obtain ⟨rfl, rfl⟩ := pure_some h; exact ⟨rfl, rfl⟩
  | _ => cases h
def andD (a b : Es → M D) : Es → M D := fun es => do
  let x ← a es
  let q ← bOf x
  if q then b es else pure (.bl false)
def orD (a b : Es → M D) : Es → M D := fun es => do
  let x ← a es
  let q ← bOf x
  if q then pure (.bl true) else b es
def notD (a : Es → M D) : Es → M D := fun es => do
  let x ← a es
  let q ← bOf x
  pure (.bl (!q))
def tstD (a : Es → M D) : Es → M Bool := fun es => do
  let x ← a es
  bOf x
def andT (a b : Es → M Bool) : Es → M Bool := fun es => do
  let q ← a es
  if q then b es else pure false
def orT (a b : Es → M Bool) : Es → M Bool := fun es => do
  let q ← a es
  if q then pure true else b es
def notT (a : Es → M Bool) : Es → M Bool := fun es => do
  let q ← a es
  pure (!q)
def ifD {α : Type} (t : Es → M Bool) (a b : Es → M α) : Es → M α := fun es => do
  let q ← t es
  if q then a es else b es
section
variable {X : Cx} {pos p2 : Pos} {a b c : Expr} {rest : List Expr} {ma mb mc : Es → M D} {ta tb : Es → M Bool}
theorem mone {op} (h : PE X a (eM T X.K ma)) : PE X (.BoolOp op [a] pos) (eM T X.K ma) := pe_one h
theorem mand (ha : PE X a (eM T X.K ma)) (hb : PE X (.BoolOp .And (b :: rest) pos) (eM T X.K mb)) : PE X (.BoolOp .And (a :: b :: rest) pos) (eM T X.K (andD ma mb)) :=
  PE.as (pe_and ha hb) fun σ H Q h => by
    obtain ⟨ρ, st, es, d, st', R, E, hm, k⟩ := h
    obtain ⟨x, s1, h1, hm1⟩ := bind_some hm
    obtain ⟨q, s2, h2, hm2⟩ := bind_some hm1
    obtain ⟨rfl, rfl⟩ := bOf_some h2
    refine ⟨ρ, st, es, _, s2, R, E, h1, fun ρ1 v1 H1 e1 R1 d1 => ⟨q, d1.bl, ?_⟩⟩
    cases q with
    | true =>
      rw [if_pos rfl] at hm2 ⊢
      exact ⟨ρ1, s2, es, d, st', R1, E.ext R e1, hm2, fun ρ3 v3 H3 e3 R3 d3 => k ρ3 v3 H3 (e1.trans e3) R3 d3⟩
    | false =>
      rw [if_neg Bool.false_ne_true] at hm2 ⊢
      obtain ⟨rfl, rfl⟩ := pure_some hm2
      exact k ρ1 _ H1 e1 R1 (by rw [DR])
theorem mor (ha : PE X a (eM T X.K ma)) (hb : PE X (.BoolOp .Or (b :: rest) pos) (eM T X.K mb)) : PE X (.BoolOp .Or (a :: b :: rest) pos) (eM T X.K (orD ma mb)) :=
  PE.as (pe_or ha hb) fun σ H Q h => by
    obtain ⟨ρ, st, es, d, st', R, E, hm, k⟩ := h
    obtain ⟨x, s1, h1, hm1⟩ := bind_some hm
    obtain ⟨q, s2, h2, hm2⟩ := bind_some hm1
    obtain ⟨rfl, rfl⟩ := bOf_some h2
    refine ⟨ρ, st, es, _, s2, R, E, h1, fun ρ1 v1 H1 e1 R1 d1 => ⟨q, d1.bl, ?_⟩⟩
    cases q with
    | false =>
      rw [if_neg Bool.false_ne_true] at hm2 ⊢
      exact ⟨ρ1, s2, es, d, st', R1, E.ext R e1, hm2, fun ρ3 v3 H3 e3 R3 d3 => k ρ3 v3 H3 (e1.trans e3) R3 d3⟩
    | true =>
      rw [if_pos rfl] at hm2 ⊢
      obtain ⟨rfl, rfl⟩ := pure_some hm2
      exact k ρ1 _ H1 e1 R1 (by rw [DR])
theorem mnot (ha : PE X a (eM T X.K ma)) : PE X (.UnaryOp .Not a pos) (eM T X.K (notD ma)) :=
  PE.as (pe_not ha) fun σ H Q h => by
    obtain ⟨ρ, st, es, d, st', R, E, hm, k⟩ := h
    obtain ⟨x, s1, h1, hm1⟩ := bind_some hm
    obtain ⟨q, s2, h2, hm2⟩ := bind_some hm1
    obtain ⟨rfl, rfl⟩ := bOf_some h2
    obtain ⟨rfl, rfl⟩ := pure_some hm2
    exact ⟨ρ, st, es, _, _, R, E, h1, fun ρ1 v1 H1 e1 R1 d1 => ⟨q, d1.bl, k ρ1 _ H1 e1 R1 (by rw [DR])⟩⟩
theorem tst_of {K : PySem.W.Frag} {ma : Es → M D} {σ : St} {H : Hp} {Q : Bool → Hp → Prop} (h : tM T K (tstD ma) σ H Q) : eM T K ma σ H fun x H' => ∃ c, x = .bl c ∧ Q c H' := by
  obtain ⟨ρ, st, es, q, st', R, E, hm, k⟩ := h
  obtain ⟨x, s1, h1, h2⟩ := bind_some hm
  obtain ⟨rfl, rfl⟩ := bOf_some h2
  exact ⟨ρ, st, es, _, _, R, E, h1, fun ρ1 v1 H1 e1 R1 d1 => ⟨q, d1.bl, k ρ1 H1 e1 R1⟩⟩
/-- a bool's expression as a test -/
theorem mtst (h : PE X a (eM T X.K ma)) (he : ∀ whole, isTrue a X.env whole = (do let v ← whole; standAt a.pos; holding [v] (truthy v)) := by intro _; rfl) : PT X a (tM T X.K (tstD ma)) :=
  PT.as (pt_val h he) fun _ _ _ q => tst_of q
theorem mtcmp {op : CmpOp} {g : D → D → M D} (ho : OpR X (compareOp op) (r2M T X.K g)) (ha : PE X a (eM T X.K ma)) (hb : PE X b (eM T X.K mb)) (hm : behindInMarks op b = false := by first | exact nomark _ | with_unfolding_all rfl) : PT X (.Compare a [op] [b] pos) (tM T X.K (tstD (opD g ma mb))) :=
  PT.as (pt_cmpR ho ha hb hm) fun σ H Q q => two_of (fun _ _ _ _ q => q) (tst_of q)
theorem mtand1 (h : PT X a (tM T X.K ta)) : PW X (.BoolOp .And [a] pos) (tM T X.K ta) := pw_and1 h
theorem mtor1 (h : PT X a (tM T X.K ta)) : PW X (.BoolOp .Or [a] pos) (tM T X.K ta) := pw_or1 h
theorem mtand (ha : PT X a (tM T X.K ta)) (hb : PW X (.BoolOp .And (b :: rest) pos) (tM T X.K tb)) : PW X (.BoolOp .And (a :: b :: rest) pos) (tM T X.K (andT ta tb)) :=
  PW.as (pw_and ha hb) fun σ H Q h => by
    obtain ⟨ρ, st, es, q, st', R, E, hm, k⟩ := h
    obtain ⟨x, s1, h1, hm1⟩ := bind_some hm
    refine ⟨ρ, st, es, x, s1, R, E, h1, fun ρ1 H1 e1 R1 => ?_⟩
    cases x with
    | true =>
      rw [if_pos rfl] at hm1 ⊢
      exact ⟨ρ1, s1, es, q, st', R1, E.ext R e1, hm1, fun ρ3 H3 e3 R3 => k ρ3 H3 (e1.trans e3) R3⟩
    | false =>
      rw [if_neg Bool.false_ne_true] at hm1 ⊢
      obtain ⟨rfl, rfl⟩ := pure_some hm1
      exact k ρ1 H1 e1 R1
theorem mtor (ha : PT X a (tM T X.K ta)) (hb : PW X (.BoolOp .Or (b :: rest) pos) (tM T X.K tb)) : PW X (.BoolOp .Or (a :: b :: rest) pos) (tM T X.K (orT ta tb)) :=
  PW.as (pw_or ha hb) fun σ H Q h => by
    obtain ⟨ρ, st, es, q, st', R, E, hm, k⟩ := h
    obtain ⟨x, s1, h1, hm1⟩ := bind_some hm
    refine ⟨ρ, st, es, x, s1, R, E, h1, fun ρ1 H1 e1 R1 => ?_⟩
    cases x with
    | false =>
      rw [if_neg Bool.false_ne_true] at hm1 ⊢
      exact ⟨ρ1, s1, es, q, st', R1, E.ext R e1, hm1, fun ρ3 H3 e3 R3 => k ρ3 H3 (e1.trans e3) R3⟩
    | true =>
      rw [if_pos rfl] at hm1 ⊢
      obtain ⟨rfl, rfl⟩ := pure_some hm1
      exact k ρ1 H1 e1 R1
theorem mtnot (ha : PT X a (tM T X.K ta)) : PT X (.UnaryOp .Not a pos) (tM T X.K (notT ta)) :=
  PT.as (pt_not ha) fun σ H Q h => by
    obtain ⟨ρ, st, es, q, st', R, E, hm, k⟩ := h
    obtain ⟨x, s1, h1, hm1⟩ := bind_some hm
    obtain ⟨rfl, rfl⟩ := pure_some hm1
    exact ⟨ρ, st, es, _, _, R, E, h1, fun ρ1 H1 e1 R1 => k ρ1 H1 e1 R1⟩
theorem mif (hc : PT X c (tM T X.K ta)) (ha : PE X a (eM T X.K ma)) (hb : PE X b (eM T X.K mb)) : PE X (.IfExp c a b pos) (eM T X.K (ifD ta ma mb)) :=
  PE.as (pe_ifExp hc ha hb) fun σ H Q h => by
    obtain ⟨ρ, st, es, d, st', R, E, hm, k⟩ := h
    obtain ⟨q, s1, h1, hm2⟩ := bind_some hm
    refine ⟨ρ, st, es, q, s1, R, E, h1, fun ρ1 H1 e1 R1 => ?_⟩
    cases q with
    | true =>
      rw [if_pos rfl] at hm2 ⊢
      exact ⟨ρ1, s1, es, d, st', R1, E.ext R e1, hm2, fun ρ3 v3 H3 e3 R3 d3 => k ρ3 v3 H3 (e1.trans e3) R3 d3⟩
    | false =>
      rw [if_neg Bool.false_ne_true] at hm2 ⊢
      exact ⟨ρ1, s1, es, d, st', R1, E.ext R e1, hm2, fun ρ3 v3 H3 e3 R3 d3 => k ρ3 v3 H3 (e1.trans e3) R3 d3⟩
end

/-! ### argument lists, displays, calls -/
def nilA : Es → M (List D) := fun _ => pure []
def consA (a : Es → M D) (r : Es → M (List D)) : Es → M (List D) := fun es => do
  let x ← a es
  let xs ← r es
  pure (x :: xs)
theorem nilA_of {K : PySem.W.Frag} {σ : St} {H : Hp} {Q : List V → Hp → Prop} (h : aM T K nilA σ H Q) : tNil σ H Q := by
  obtain ⟨ρ, st, es, ds, st', R, E, hm, k⟩ := h
  obtain ⟨rfl, rfl⟩ := pure_some hm
  exact k ρ [] H (Ext.refl _ _) R DRs.nil
theorem consA_of {K : PySem.W.Frag} {σ : St} {H : Hp} {Q : List V → Hp → Prop} {ma : Es → M D} {mr : Es → M (List D)} (h : aM T K (consA ma mr) σ H Q) : tCons (eM T K ma) (aM T K mr) σ H Q := by
  obtain ⟨ρ, st, es, ds, st', R, E, hm, k⟩ := h
  obtain ⟨x, s1, h1, hm1⟩ := bind_some hm
  obtain ⟨xs, s2, h2, hm2⟩ := bind_some hm1
  obtain ⟨rfl, rfl⟩ := pure_some hm2
  exact ⟨ρ, st, es, x, s1, R, E, h1, fun ρ1 v1 H1 e1 R1 d1 => ⟨ρ1, s1, es, xs, _, R1, E.ext R e1, h2, fun ρ2 vs H2 e2 R2 d2 => k ρ2 _ H2 (e1.trans e2) R2 (DRs.cons (DR.ext R1 e2 _ _ d1) d2)⟩⟩
def tupD (a : Es → M (List D)) : Es → M D := fun es => do
  let xs ← a es
  guardM (decide (xs.length ≤ sizeLine))
  pure (.tup xs)
def lstD (a : Es → M (List D)) : Es → M D := fun es => do
  let xs ← a es
  guardM (decide (xs.length ≤ sizeLine))
  new (.lst xs)
/-- a call with values -/
def callD (g : List D → M D) (a : Es → M (List D)) : Es → M D := fun es => do
  let xs ← a es
  g xs
theorem call_of {K : PySem.W.Frag} {r : List V → Hp → VK → Prop} {g : List D → M D} (hr : ∀ xs H Q, rnM T K g xs H Q → r xs H Q) {a : Es → M (List D)} {σ : St} {H : Hp} {Q : VK} (h : eM T K (callD g a) σ H Q) : aM T K a σ H fun xs H1 => r xs H1 Q := by
  obtain ⟨ρ, st, es, d, st', R, E, hm, k⟩ := h
  obtain ⟨xs, s1, h1, h3⟩ := bind_some hm
  exact ⟨ρ, st, es, xs, s1, R, E, h1, fun ρ1 v1 H1 e1 R1 d1 => hr _ _ _ ⟨ρ1, s1, xs, d, st', R1, d1, h3, fun ρ3 v3 H3 e3 R3 d3 => k ρ3 v3 H3 (e1.trans e3) R3 d3⟩⟩
section
variable {X : Cx} {pos p : Pos} {e : Expr} {es : List Expr} {me : Es → M D} {ma : Es → M (List D)} {x : Str} {id C : String} {g : List D → M D}
theorem anil : PA X [] (aM T X.K nilA) := PA.as pa_nil fun _ _ _ h => nilA_of h
theorem acons (ha : PE X e (eM T X.K me)) (hr : PA X es (aM T X.K ma)) (hs : starEach (e :: es) X.env = (false, eval e X.env) :: starEach es X.env := by rfl) : PA X (e :: es) (aM T X.K (consA me ma)) :=
  PA.as (pa_cons ha hr hs) fun _ _ _ h => consA_of h
theorem knil : PK X [] (aM T X.K nilA) := PK.as pk_nil fun _ _ _ h => nilA_of h
theorem kcons {nm : Option Str} {kpos : Pos} {kws : List Keyword} (ha : PE X e (eM T X.K me)) (hr : PK X kws (aM T X.K ma)) : PK X (⟨nm, e, kpos⟩ :: kws) (aM T X.K (consA me ma)) :=
  PK.as (pk_cons ha hr) fun _ _ _ h => consA_of h
theorem mtup {x1} (h : PA X es (aM T X.K ma)) : PE X (.Tuple es x1 pos) (eM T X.K (tupD ma)) :=
  PE.as (pe_tup h) fun σ H Q q => by
    obtain ⟨ρ, st, es, d, st', R, E, hm, k⟩ := q
    obtain ⟨xs, s1, h1, h3⟩ := bind_some hm
    obtain ⟨hz, h4⟩ := guarded h3
    obtain ⟨rfl, rfl⟩ := pure_some h4
    exact ⟨ρ, st, es, xs, _, R, E, h1, fun ρ1 v1 H1 e1 R1 d1 => ⟨by rw [d1.length]; exact of_decide_eq_true hz, Post.tup R1 (fun ρ3 v3 H3 e3 R3 d3 => k ρ3 v3 H3 (e1.trans e3) R3 d3) d1⟩⟩
theorem mlst (h : PA X es (aM T X.K ma)) : PE X (.List es pos) (eM T X.K (lstD ma)) :=
  PE.as (pe_lst h) fun σ H Q q => by
    obtain ⟨ρ, st, es, d, st', R, E, hm, k⟩ := q
    obtain ⟨xs, s1, h1, h3⟩ := bind_some hm
    obtain ⟨hz, h4⟩ := guarded h3
    cases h4
    exact ⟨ρ, st, es, xs, _, R, E, h1, fun ρ1 v1 H1 e1 R1 d1 => ⟨by rw [d1.length]; exact of_decide_eq_true hz, Post.lst R1 (fun ρ3 v3 H3 e3 R3 d3 => k ρ3 v3 H3 (e1.trans e3) R3 d3) d1⟩⟩
theorem mcallB (hc : CallR X (.builtin id) (rnM T X.K g)) (hg : Gl X x) (hm : X.mg x = none) (hv : bootBuiltins x = some (.builtin id)) (ha : PA X (e :: es) (aM T X.K ma)) (hn : x ≠ "__name__" := by decide) (hdb : (x == ("__debug__" : Str)) = false := by decide)
    (he : starEach (e :: es) X.env = (false, eval e X.env) :: starEach es X.env := by rfl) (hpl : (backTo pos (starEach es X.env)).any (·.1) = false := by rfl) : PE X (.Call (.Name x p) (e :: es) [] pos) (eM T X.K (callD g ma)) :=
  PE.as (pe_callB hc hg hm hv ha hn hdb he hpl) fun _ _ _ h => call_of (fun _ _ _ q => q) h
theorem mcallT (hc : CallR X (.type C) (rnM T X.K g)) (hg : Gl X x) (hm : X.mg x = none) (hv : bootBuiltins x = some (.type C)) (ha : PA X (e :: es) (aM T X.K ma)) (hn : x ≠ "__name__" := by decide) (hdb : (x == ("__debug__" : Str)) = false := by decide)
    (he : starEach (e :: es) X.env = (false, eval e X.env) :: starEach es X.env := by rfl) (hpl : (backTo pos (starEach es X.env)).any (·.1) = false := by rfl) : PE X (.Call (.Name x p) (e :: es) [] pos) (eM T X.K (callD g ma)) :=
  PE.as (pe_callTy hc hg hm hv ha hn hdb he hpl) fun _ _ _ h => call_of (fun _ _ _ q => q) h
/-- what a def gives, by its arguments -/
def spM (T : List (Addr × Str)) (K : PySem.W.Frag) (g : List D → M D) : Sp := fun vs H Q _ => rnM T K g vs H Q
theorem mcall {k : Nat} {f : Addr} {fd : FuncData} {ps : List Str} (F : FnOk X.prog X.w X.K X.mg X.base CX0 k f fd ps (spM T X.K g)) (hr : Room k X.A) (hg : Gl X x) (hm : X.mg x = some (.ref f)) (hk : PySem.W.keepIn X.K (.ref f) = true) (hb : Binds X.K fd ps [])
    (ha : PA X (e :: es) (aM T X.K ma))
    (hdb : (x == ("__debug__" : Str)) = false := by decide) (he : starEach (e :: es) X.env = (false, eval e X.env) :: starEach es X.env := by rfl) (hpl : (backTo pos (starEach es X.env)).any (·.1) = false := by rfl) :
    PE X (.Call (.Name x p) (e :: es) [] pos) (eM T X.K (callD g ma)) :=
  PE.as (pe_call F hr hg hm hk hb .nil pass0 ha hdb he hpl) fun σ H Q h => call_of (r := fun xs H1 Q => spM T X.K g (xs ++ []) H1 Q E0) (fun xs H Q q => by rw [List.append_nil]; exact q) h
theorem mcall0 {k : Nat} {f : Addr} {fd : FuncData} {ps : List Str} (F : FnOk X.prog X.w X.K X.mg X.base CX0 k f fd ps (spM T X.K g)) (hr : Room k X.A) (hg : Gl X x) (hm : X.mg x = some (.ref f)) (hk : PySem.W.keepIn X.K (.ref f) = true) (hb : Binds X.K fd ps [])
    (hdb : (x == ("__debug__" : Str)) = false := by decide) : PE X (.Call (.Name x p) [] [] pos) (eM T X.K (callD g nilA)) :=
  PE.as (pe_call0 F hr hg hm hk hb .nil pass0 hdb) fun σ H Q h => nilA_of (call_of (r := fun xs H1 Q => spM T X.K g (xs ++ []) H1 Q E0) (fun xs H Q q => by rw [List.append_nil]; exact q) h)
/-- f(k = v, ..), by a permutation of the values -/
def callKD (g : List D → M D) (w : List D → List D) (a : Es → M (List D)) : Es → M D := fun es => do
  let xs ← a es
  g (w xs)
end

/-! ### slices -/
inductive Pt where | no | at (m : Es → M D)
def Pt.t (T : List (Addr × Str)) (K : PySem.W.Frag) : Pt → TO
  | .no => tNoPart
  | .at m => tPart (eM T K m)
def Pt.run : Pt → Es → M (Option Int)
  | .no, _ => pure none
  | .at m, es => do
    let x ← m es
    match x with
      | .int i => pure (some i)
      | _ => fail
def sliD (a : Es → M D) (lo hi : Pt) : Es → M D := fun es => do
  let x ← a es
  let l ← lo.run es
  let u ← hi.run es
  slD x l u
theorem Pt.of {K : PySem.W.Frag} {ρ : List Addr} {st s1 : S} {es : Es} {σ : St} {H : Hp} {Q : Option Int → Hp → Prop} {o : Option Int} (p : Pt) (R : Rel T K ρ H st) (E : ER K ρ H es σ) (h : p.run es st = some (o, s1))
    (k : ∀ (ρ' : List Addr) (H' : Hp), Ext ρ H ρ' H' → Rel T K ρ' H' s1 → Q o H') : p.t T K σ H Q := by
  cases p with
  | no =>
    obtain ⟨rfl, rfl⟩ := pure_some h
    exact k ρ H (Ext.refl _ _) R
  | «at» m =>
    obtain ⟨x, s2, h1, h2⟩ := bind_some h
    refine ⟨ρ, st, es, x, s2, R, E, h1, fun ρ1 v1 H1 e1 R1 d1 => ?_⟩
    cases x with
    | int i =>
      obtain ⟨rfl, rfl⟩ := pure_some h2
      exact ⟨i, d1.int, k ρ1 H1 e1 R1⟩
    | _ => cases h2
section
variable {X : Cx} {pos p2 : Pos} {e : Expr} {lo hi : Option Expr} {me : Es → M D} {ml mh : Pt}
theorem ponone : PO X none ((Pt.no).t T X.K) := po_none
theorem posome {m : Es → M D} (h : PE X e (eM T X.K m)) : PO X (some e) ((Pt.at m).t T X.K) := po_some h
theorem mslice (he : PE X e (eM T X.K me)) (hl : PO X lo (ml.t T X.K)) (hu : PO X hi (mh.t T X.K)) : PE X (.Subscript e (.Slice lo hi none p2) pos) (eM T X.K (sliD me ml mh)) :=
  PE.as (pe_slice slM he hl hu) fun σ H Q q => by
    obtain ⟨ρ, st, es, d, st', R, E, hm, k⟩ := q
    obtain ⟨x, s1, h1, hm1⟩ := bind_some hm
    obtain ⟨l, s2, h2, hm2⟩ := bind_some hm1
    obtain ⟨u, s3, h3, h4⟩ := bind_some hm2
    exact ⟨ρ, st, es, x, s1, R, E, h1, fun ρ1 v1 H1 e1 R1 d1 => ml.of R1 (E.ext R e1) h2 fun ρ2 H2 e2 R2 => mh.of R2 (E.ext R (e1.trans e2)) h3 fun ρ3 H3 e3 R3 =>
      ⟨ρ3, s3, x, d, st', R3, DR.ext R1 (e2.trans e3) _ _ d1, h4, fun ρ4 v4 H4 e4 R4 d4 => k ρ4 v4 H4 (((e1.trans e2).trans e3).trans e4) R4 d4⟩⟩
end
end Mx


/-! Mx7: statements by the store: targets, loops, comprehensions. -/
namespace Mx
open PySem PySem.Spec L2
variable {T : List (Addr × Str)}

/-- how a statement ends -/
inductive Fl where
  | nx | bk | ct | rt (d : D)
  deriving Inhabited
def Done (T : List (Addr × Str)) (K : PySem.W.Frag) (ρ : List Addr) (H : Hp) (es : Es) (st : S) (E : Ends) : Fl → Prop
  | .nx => ∀ (ρ' : List Addr) (σ' : St) (H' : Hp), Ext ρ H ρ' H' → Rel T K ρ' H' st → ER K ρ' H' es σ' → E.nx σ' H'
  | .bk => ∀ (ρ' : List Addr) (σ' : St) (H' : Hp), Ext ρ H ρ' H' → Rel T K ρ' H' st → ER K ρ' H' es σ' → E.bk σ' H'
  | .ct => ∀ (ρ' : List Addr) (σ' : St) (H' : Hp), Ext ρ H ρ' H' → Rel T K ρ' H' st → ER K ρ' H' es σ' → E.ct σ' H'
  | .rt d => Post T K ρ H st d E.rt
theorem Done.from {K : PySem.W.Frag} {ρ ρ1 : List Addr} {H H1 : Hp} {es : Es} {st : S} {E : Ends} {f : Fl} (h : Done T K ρ H es st E f) (e : Ext ρ H ρ1 H1) : Done T K ρ1 H1 es st E f := by
  cases f with
  | nx => exact fun ρ' σ' H' e2 => h ρ' σ' H' (e.trans e2)
  | bk => exact fun ρ' σ' H' e2 => h ρ' σ' H' (e.trans e2)
  | ct => exact fun ρ' σ' H' e2 => h ρ' σ' H' (e.trans e2)
  | rt d => exact fun ρ' v H' e2 => h ρ' v H' (e.trans e2)
def sM (T : List (Addr × Str)) (K : PySem.W.Frag) (m : Es → M (Es × Fl)) : TS := fun E σ H => ∃ (ρ : List Addr) (st : S) (es es' : Es) (f : Fl) (st' : S), Rel T K ρ H st ∧ ER K ρ H es σ ∧ m es st = some ((es', f), st') ∧ Done T K ρ H es' st' E f
def gM (T : List (Addr × Str)) (K : PySem.W.Frag) (g : D → Es → M Es) : TG := fun v σ H Q => ∃ (ρ : List Addr) (st : S) (es : Es) (d : D) (es' : Es) (st' : S), Rel T K ρ H st ∧ ER K ρ H es σ ∧ DR K ρ H d v ∧ g d es st = some (es', st') ∧
  ∀ (ρ' : List Addr) (σ' : St) (H' : Hp), Ext ρ H ρ' H' → Rel T K ρ' H' st' → ER K ρ' H' es' σ' → Q σ' H'
def gsM (T : List (Addr × Str)) (K : PySem.W.Frag) (g : List D → Es → M Es) : TGs := fun vs σ H Q => ∃ (ρ : List Addr) (st : S) (es : Es) (ds : List D) (es' : Es) (st' : S), Rel T K ρ H st ∧ ER K ρ H es σ ∧ DRs K ρ H ds vs ∧ g ds es st = some (es', st') ∧
  ∀ (ρ' : List Addr) (σ' : St) (H' : Hp), Ext ρ H ρ' H' → Rel T K ρ' H' st' → ER K ρ' H' es' σ' → Q σ' H'
section
variable {X : Cx}
theorem PS.as {e : Stmt} {t t' : TS} (h : PS X e t) (i : ∀ E σ H, t' E σ H → t E σ H) : PS X e t' := ⟨fun pins s σ H E I q => h.run pins s σ H E I (i E σ H q)⟩
theorem PSs.as {e : List Stmt} {t t' : TS} (h : PSs X e t) (i : ∀ E σ H, t' E σ H → t E σ H) : PSs X e t' := ⟨fun pins s σ H E I q => h.run pins s σ H E I (i E σ H q)⟩
theorem PG.as {e : Expr} {t t' : TG} (h : PG X e t) (i : ∀ v σ H Q, t' v σ H Q → t v σ H Q) : PG X e t' := ⟨fun pins s σ H v u Q I r q => h.run pins s σ H v u Q I r (i v σ H Q q)⟩
theorem PGs.as {e : List Expr} {t t' : TGs} (h : PGs X e t) (i : ∀ v σ H Q, t' v σ H Q → t v σ H Q) : PGs X e t' := ⟨fun pins s σ H v u Q I r q => h.run pins s σ H v u Q I r (i v σ H Q q)⟩
end

/-! ### suites -/
def nxS : Es → M (Es × Fl) := fun es => pure (es, .nx)
def bkS : Es → M (Es × Fl) := fun es => pure (es, .bk)
def ctS : Es → M (Es × Fl) := fun es => pure (es, .ct)
def seqS (a b : Es → M (Es × Fl)) : Es → M (Es × Fl) := fun es => do
  let p ← a es
  match p.2 with
    | .nx => b p.1
    | _ => pure p
def retS (a : Es → M D) : Es → M (Es × Fl) := fun es => do
  let x ← a es
  pure (es, .rt x)
def dropS (a : Es → M D) : Es → M (Es × Fl) := fun es => do
  let _ ← a es
  pure (es, .nx)
def asgS (a : Es → M D) (g : D → Es → M Es) : Es → M (Es × Fl) := fun es => do
  let x ← a es
  let es' ← g x es
  pure (es', .nx)
theorem some_mk {α : Type} {a b : α} {s t : S} (h : some (a, s) = some (b, t)) : b = a ∧ t = s := by cases h; exact ⟨rfl, rfl⟩
theorem pair_some {es es' : Es} {f f' : Fl} {st st' : S} (h : (pure (es, f) : M (Es × Fl)) st = some ((es', f'), st')) : es' = es ∧ f' = f ∧ st' = st := by
  obtain ⟨h1, h2⟩ := pure_some h
  cases h1
  exact ⟨rfl, rfl, h2⟩
section
variable {X : Cx} {pos : Pos} {s0 : Stmt} {rest a b : List Stmt} {e c tg : Expr} {me : Es → M D} {m1 m2 : Es → M (Es × Fl)} {tc : Es → M Bool} {g : D → Es → M Es}
theorem snil : PSs X [] (sM T X.K nxS) := PSs.as pss_nil fun E σ H h => by
  obtain ⟨ρ, st, es, es', f, st', R, Er, hm, k⟩ := h
  obtain ⟨rfl, rfl, rfl⟩ := pair_some hm
  exact k ρ σ H (Ext.refl _ _) R Er
theorem spass : PS X (.Pass pos) (sM T X.K nxS) := PS.as ps_pass fun E σ H h => by
  obtain ⟨ρ, st, es, es', f, st', R, Er, hm, k⟩ := h
  obtain ⟨rfl, rfl, rfl⟩ := pair_some hm
  exact k ρ σ H (Ext.refl _ _) R Er
theorem sbreak : PS X (.Break pos) (sM T X.K bkS) := PS.as ps_break fun E σ H h => by
  obtain ⟨ρ, st, es, es', f, st', R, Er, hm, k⟩ := h
  obtain ⟨rfl, rfl, rfl⟩ := pair_some hm
  exact k ρ σ H (Ext.refl _ _) R Er
theorem scont : PS X (.Continue pos) (sM T X.K ctS) := PS.as ps_continue fun E σ H h => by
  obtain ⟨ρ, st, es, es', f, st', R, Er, hm, k⟩ := h
  obtain ⟨rfl, rfl, rfl⟩ := pair_some hm
  exact k ρ σ H (Ext.refl _ _) R Er
theorem seq_done {K : PySem.W.Frag} {ρ : List Addr} {H : Hp} {es1 es' : Es} {f1 f : Fl} {s1 st' : S} {E : Ends} {t : TS} (h : (match f1 with | .nx => m2 es1 | _ => pure (es1, f1)) s1 = some ((es', f), st')) (k : Done T K ρ H es' st' E f)
    (ht : ∀ E σ H, sM T K m2 E σ H → t E σ H) : Done T K ρ H es1 s1 { E with nx := t E } f1 := by
  cases f1 with
  | nx => exact fun ρ' σ' H' e R Er => ht _ _ _ ⟨ρ', s1, es1, es', f, st', R, Er, h, k.from e⟩
  | bk => obtain ⟨rfl, rfl, rfl⟩ := pair_some h; exact k
  | ct => obtain ⟨rfl, rfl, rfl⟩ := pair_some h; exact k
  | rt d => obtain ⟨rfl, rfl, rfl⟩ := pair_some h; exact k
theorem scons (h1 : PS X s0 (sM T X.K m1)) (h2 : PSs X rest (sM T X.K m2)) : PSs X (s0 :: rest) (sM T X.K (seqS m1 m2)) :=
  PSs.as (pss_cons h1 h2) fun E σ H h => by
    obtain ⟨ρ, st, es, es', f, st', R, Er, hm, k⟩ := h
    obtain ⟨⟨es1, f1⟩, s1, h3, h4⟩ := bind_some hm
    exact ⟨ρ, st, es, es1, f1, s1, R, Er, h3, seq_done h4 k fun _ _ _ q => q⟩
theorem sone (h1 : PS X s0 (sM T X.K m1)) : PSs X [s0] (sM T X.K m1) := pss_one h1
theorem sdoc {x j pos'} : PS X (.Expr (.Constant (.str x) j pos) pos') (sM T X.K nxS) := PS.as ps_doc fun E σ H h => by
  obtain ⟨ρ, st, es, es', f, st', R, Er, hm, k⟩ := h
  obtain ⟨rfl, rfl, rfl⟩ := pair_some hm
  exact k ρ σ H (Ext.refl _ _) R Er
theorem sret (he : PE X e (eM T X.K me)) : PS X (.Return (some e) pos) (sM T X.K (retS me)) := PS.as (ps_ret he) fun E σ H h => by
  obtain ⟨ρ, st, es, es', f, st', R, Er, hm, k⟩ := h
  obtain ⟨x, s1, h1, h2⟩ := bind_some hm
  obtain ⟨rfl, rfl, rfl⟩ := pair_some h2
  exact ⟨ρ, st, _, x, _, R, Er, h1, k⟩
theorem sdrop (he : PE X e (eM T X.K me)) (hs : swapsWith e none pos.line X.env = pure false := by rfl) : PS X (.Expr e pos) (sM T X.K (dropS me)) := PS.as (ps_expr he hs) fun E σ H h => by
  obtain ⟨ρ, st, es, es', f, st', R, Er, hm, k⟩ := h
  obtain ⟨x, s1, h1, h2⟩ := bind_some hm
  obtain ⟨rfl, rfl, rfl⟩ := pair_some h2
  exact ⟨ρ, st, _, x, _, R, Er, h1, fun ρ1 v1 H1 e1 R1 d1 => k ρ1 σ H1 e1 R1 (Er.ext R e1)⟩
theorem sif (hc : PT X c (tM T X.K tc)) (ha : PSs X a (sM T X.K m1)) (hb : PSs X b (sM T X.K m2)) : PS X (.If c a b pos) (sM T X.K (ifD tc m1 m2)) := PS.as (ps_if hc ha hb) fun E σ H h => by
  obtain ⟨ρ, st, es, es', f, st', R, Er, hm, k⟩ := h
  obtain ⟨q, s1, h1, h2⟩ := bind_some hm
  refine ⟨ρ, st, es, q, s1, R, Er, h1, fun ρ1 H1 e1 R1 => ?_⟩
  cases q with
  | true =>
    rw [if_pos rfl] at h2 ⊢
    exact ⟨ρ1, s1, es, es', f, st', R1, Er.ext R e1, h2, k.from e1⟩
  | false =>
    rw [if_neg Bool.false_ne_true] at h2 ⊢
    exact ⟨ρ1, s1, es, es', f, st', R1, Er.ext R e1, h2, k.from e1⟩
theorem asg_of {K : PySem.W.Frag} {E : Ends} {σ : St} {H : Hp} (h : sM T K (asgS me g) E σ H) : tAsg (eM T K me) (gM T K g) E σ H := by
  obtain ⟨ρ, st, es, es', f, st', R, Er, hm, k⟩ := h
  obtain ⟨x, s1, h1, h2⟩ := bind_some hm
  obtain ⟨es1, s2, h3, h4⟩ := bind_some h2
  obtain ⟨rfl, rfl, rfl⟩ := pair_some h4
  exact ⟨ρ, st, es, x, s1, R, Er, h1, fun ρ1 v1 H1 e1 R1 d1 => ⟨ρ1, s1, es, x, _, _, R1, Er.ext R e1, d1, h3, fun ρ2 σ2 H2 e2 => k ρ2 σ2 H2 (e1.trans e2)⟩⟩
theorem sasg (he : PE X e (eM T X.K me)) (hg : PG X tg (gM T X.K g)) (hs : swapsWithSole [tg] e pos.line X.env = pure false := by rfl) (hw : swappedStores [tg] e X.env = pure none := by rfl)
    (h1 : (assignEach [tg] X.env).map (·.2) = [assign tg X.env] := by rfl) : PS X (.Assign [tg] e pos) (sM T X.K (asgS me g)) := PS.as (ps_asg he hg hs hw h1) fun _ _ _ h => asg_of h

/-! ### targets -/
def nameG (i : Nat) : D → Es → M Es := fun d es => pure (es.set i (some d))
theorem gname_of {K : PySem.W.Frag} {i : Nat} {v : V} {σ : St} {H : Hp} {Q : St → Hp → Prop} (h : gM T K (nameG i) v σ H Q) : gName i v σ H Q := by
  obtain ⟨ρ, st, es, d, es', st', R, Er, hd, hm, k⟩ := h
  obtain ⟨rfl, rfl⟩ := pure_some hm
  exact k ρ _ H (Ext.refl _ _) R (Er.set hd)
theorem gname (i : Nat) {x : Str} (hN : X.N.Nodup) (hi : X.N[i]? = some x := by rfl) (hx : Loc X.env.scope x := by first | exact Or.inl rfl | exact Or.inr rfl) (hf : X.fn x = true ∨ X.env.scope.names.lookup x = some .local := by first | exact .inl rfl | exact .inr rfl) :
    PG X (.Name x pos) (gM T X.K (nameG i)) := PG.as (pg_name hN hi hx hf) fun _ _ _ _ h => gname_of h
theorem sset (i : Nat) {x : Str} {pos' : Pos} (hN : X.N.Nodup) (he : PE X e (eM T X.K me)) (hi : X.N[i]? = some x := by rfl) (hx : Loc X.env.scope x := by first | exact Or.inl rfl | exact Or.inr rfl) (hs : swapsWith e (some (.Name x pos')) pos.line X.env = pure false := by rfl)
    (hf : X.fn x = true ∨ X.env.scope.names.lookup x = some .local := by first | exact .inl rfl | exact .inr rfl) : PS X (.Assign [.Name x pos'] e pos) (sM T X.K (asgS me (nameG i))) :=
  PS.as (ps_set hN hi hx he hs hf) fun E σ H h => by
    obtain ⟨ρ, st, es, d, st', R, Er, hm, k⟩ := asg_of h
    exact ⟨ρ, st, es, d, st', R, Er, hm, fun ρ1 v1 H1 e1 R1 d1 => gname_of (k ρ1 v1 H1 e1 R1 d1)⟩
def nilG : List D → Es → M Es
  | [], es => pure es
  | _ :: _, _ => fail
def consG (g : D → Es → M Es) (r : List D → Es → M Es) : List D → Es → M Es
  | d :: ds, es => do
    let es1 ← g d es
    r ds es1
  | [], _ => fail
theorem gnil : PGs X [] (gsM T X.K nilG) := PGs.as pgs_nil fun vs σ H Q h => by
  obtain ⟨ρ, st, es, ds, es', st', R, Er, hd, hm, k⟩ := h
  cases ds with
  | nil =>
    obtain ⟨rfl, rfl⟩ := pure_some hm
    rw [DRs] at hd
    exact ⟨hd, k ρ σ H (Ext.refl _ _) R Er⟩
  | cons d r => cases hm
theorem gcons {es : List Expr} {r : List D → Es → M Es} (h1 : PG X e (gM T X.K g)) (h2 : PGs X es (gsM T X.K r))
    (hs : (assignEach (e :: es) X.env).map (·.2) = assign e X.env :: (assignEach es X.env).map (·.2) := by rfl) : PGs X (e :: es) (gsM T X.K (consG g r)) := PGs.as (pgs_cons h1 h2 hs) fun vs σ H Q h => by
  obtain ⟨ρ, st, es, ds, es', st', R, Er, hd, hm, k⟩ := h
  cases ds with
  | nil => cases hm
  | cons d ds =>
    rw [DRs] at hd
    obtain ⟨v, w, rfl, d1, d2⟩ := hd
    obtain ⟨es1, s1, h3, h4⟩ := bind_some hm
    exact ⟨v, w, rfl, ρ, st, es, d, es1, s1, R, Er, d1, h3, fun ρ1 σ1 H1 e1 R1 Er1 => ⟨ρ1, s1, es1, ds, es', st', R1, Er1, DRs.ext R e1 _ _ d2, h4, fun ρ2 σ2 H2 e2 => k ρ2 σ2 H2 (e1.trans e2)⟩⟩
def tupG (n : Nat) (g : List D → Es → M Es) : D → Es → M Es
  | .tup ds, es => do
    guardM (decide (ds.length = n))
    g ds es
  | _, _ => fail
theorem gtup {es : List Expr} {k : Nat} {gs : List D → Es → M Es} {n : Nat} (hc : X.calm = true) (h : PGs X es (gsM T X.K gs))
    (hn : (assignEach es X.env).length = n := by rfl) (hst : (assignEach es X.env).findIdx? (·.1) = none := by rfl) : PG X (.Tuple es k pos) (gM T X.K (tupG n gs)) := PG.as (pg_tup hc h hn hst) fun v σ H Q h => by
  obtain ⟨ρ, st, es, d, es', st', R, Er, hd, hm, k⟩ := h
  cases d with
  | tup ds =>
    obtain ⟨hz, hm2⟩ := guarded hm
    obtain ⟨a, vs, rfl, q1, q2⟩ := hd.tup
    exact ⟨a, vs, rfl, q1, by rw [q2.length]; exact of_decide_eq_true hz, ρ, st, es, ds, es', st', R, Er, q2, hm2, k⟩
  | _ => cases hm
/-- a, b = x, y -/
def parS (i j : Nat) (a : Es → M (List D)) : Es → M (Es × Fl) := fun es => do
  let ds ← a es
  match ds with
    | [x, y] => pure ((es.set i (some x)).set j (some y), .nx)
    | _ => fail
theorem spar (i j : Nat) {x y : Str} {a b : Expr} {ma : Es → M (List D)} {px py pt : Pos} {kt k2 pt2} (hc : X.calm = true) (hN : X.N.Nodup) (ha : PA X [a, b] (aM T X.K ma)) (hij : i ≠ j := by decide) (hi : X.N[i]? = some x := by rfl) (hj : X.N[j]? = some y := by rfl)
    (hx : X.env.scope.names.lookup x = some .local := by rfl) (hy : X.env.scope.names.lookup y = some .local := by rfl)
    (hw : swappedStores [.Tuple [.Name x px, .Name y py] kt pt] (.Tuple [a, b] k2 pt2) X.env = pure (some [x, y]) := by rfl)
    (hs : swapsWithSole [.Tuple [.Name x px, .Name y py] kt pt] (.Tuple [a, b] k2 pt2) pos.line X.env = pure false := by rfl) :
    PS X (.Assign [.Tuple [.Name x px, .Name y py] kt pt] (.Tuple [a, b] k2 pt2) pos) (sM T X.K (parS i j ma)) := PS.as (ps_par hc hN hi hj hij hx hy ha hw hs) fun E σ H h => by
  obtain ⟨ρ, st, es, es', f, st', R, Er, hm, k⟩ := h
  obtain ⟨ds, s1, h1, h2⟩ := bind_some hm
  refine ⟨ρ, st, es, ds, s1, R, Er, h1, fun ρ1 vs H1 e1 R1 d1 => ?_⟩
  match ds, h2, d1 with
  | [x, y], h2, d1 =>
    obtain ⟨rfl, rfl, rfl⟩ := pair_some h2
    obtain ⟨v, w, rfl, q1, q2⟩ := d1.two
    exact ⟨v, w, rfl, k ρ1 _ H1 e1 R1 (((Er.ext R e1).set q1).set q2)⟩
  | [], h2, _ => cases h2
  | [_], h2, _ => cases h2
  | _ :: _ :: _ :: _, h2, _ => cases h2

/-! ### o[i] = v -/
def dicPut (n : Nat) (kvs : List (Key × D)) (i d : D) : M Unit := fun st => match keyD i with
  | some k => if kvs.length < sizeLine then some ((), st.set n (.dic (put kvs k d))) else none
  | none => none
def ditPut (n : Nat) (kvs : List (List Key × D)) (i d : D) : M Unit := fun st => match keysD i with
  | some k => if kvs.length < sizeLine then some ((), st.set n (.dit (put kvs k d))) else none
  | none => none
def setRef (n : Nat) (i d : D) : M Unit := fun st => match st[n]? with
  | some (.dic kvs) => dicPut n kvs i d st
  | some (.dit kvs) => ditPut n kvs i d st
  | _ => none
def setD : D → D → D → M Unit
  | .ref n, i, d => setRef n i d
  | _, _, _ => fail
def subG (o i : Es → M D) : D → Es → M Es := fun d es => do
  let x ← o es
  let y ← i es
  setD x y d
  pure es
def rsetM (T : List (Addr × Str)) (K : PySem.W.Frag) : TSet := fun o i v H Q => ∃ (ρ : List Addr) (st : S) (a b d : D) (st' : S), Rel T K ρ H st ∧ DR K ρ H a o ∧ DR K ρ H b i ∧ DR K ρ H d v ∧ setD a b d st = some ((), st') ∧ ∀ (ρ' : List Addr) (H' : Hp), Ext ρ H ρ' H' → Rel T K ρ' H' st' → Q H'
theorem setM (hu : X.A.units + 1 < cLine) : PSet X (rsetM T X.K) := by
  intro pins s σ H o i v ov iv u Q I ro ri rv ⟨ρ, st, a, b, d, st', R, ha, hb, hd, hm, k⟩
  cases a with
  | ref n =>
    have hm1 : setRef n b d st = some ((), st') := hm
    unfold setRef at hm1
    split at hm1
    · rename_i kvs hn
      obtain ⟨p, ws, rfl, hp, q1, q2⟩ := R.dic ha hn
      unfold dicPut at hm1
      cases hk : keyD b with
      | none => rw [hk] at hm1; cases hm1
      | some ky =>
        rw [hk] at hm1
        dsimp only at hm1
        split at hm1
        · rename_i hz
          cases hm1
          have e := keyD_of hb hk
          subst e
          refine set_dict hu pins s σ H _ _ v ov iv u Q I ro ri rv ⟨p, _, rfl, DPut.k q1 (by rw [q2.length]; exact hz), ?_⟩
          exact k ρ _ (Ext.put R hp (fun _ _ z => by simp_all)) (R.put hp (fun _ _ z => by simp_all) fun H' e x => ⟨_, e, (KR.ext R x _ _ q2).put ky (DR.ext R x _ _ hd)⟩)
        · cases hm1
    · rename_i kvs hn
      obtain ⟨p, ws, rfl, hp, q1, q2⟩ := R.dit ha hn
      unfold ditPut at hm1
      cases hk : keysD b with
      | none => rw [hk] at hm1; cases hm1
      | some ky =>
        rw [hk] at hm1
        dsimp only at hm1
        split at hm1
        · rename_i hz
          cases hm1
          obtain ⟨q, rfl, e⟩ := keysD_of hb hk
          refine set_dict hu pins s σ H _ _ v ov iv u Q I ro ri rv ⟨p, _, rfl, DPut.t q1 e (by rw [q2.length]; exact hz), ?_⟩
          exact k ρ _ (Ext.put R hp (fun _ _ z => by simp_all)) (R.put hp (fun _ _ z => by simp_all) fun H' e x => ⟨_, e, (KR.ext R x _ _ q2).put ky (DR.ext R x _ _ hd)⟩)
        · cases hm1
    · cases hm1
  | _ => cases hm
theorem gsub {o i : Expr} {mo mi : Es → M D} (hu : X.A.units + 1 < cLine) (ho : PE X o (eM T X.K mo)) (hi : PE X i (eM T X.K mi))
    (ha : ∀ v, assign (.Subscript o i pos) X.env v = (do
      let ov ← holding [v] (eval o X.env)
      let iv ← holding [v, ov] (eval i X.env)
      standAt pos
      holding [v, ov, iv] (setItem ov iv v)
      release [v, ov, iv] []) := by intro _; rfl) : PG X (.Subscript o i pos) (gM T X.K (subG mo mi)) := PG.as (pg_sub ho hi (setM hu) ha) fun v σ H Q h => by
  obtain ⟨ρ, st, es, d, es', st', R, Er, hd, hm, k⟩ := h
  obtain ⟨x, s1, h1, hm1⟩ := bind_some hm
  obtain ⟨y, s2, h2, hm2⟩ := bind_some hm1
  obtain ⟨_, s3, h3, hm3⟩ := bind_some hm2
  obtain ⟨rfl, rfl⟩ := pure_some hm3
  exact ⟨ρ, st, _, x, s1, R, Er, h1, fun ρ1 v1 H1 e1 R1 d1 => ⟨ρ1, s1, _, y, s2, R1, Er.ext R e1, h2, fun ρ2 v2 H2 e2 R2 d2 => ⟨ρ2, s2, x, y, d, _, R2, DR.ext R1 e2 _ _ d1, d2, DR.ext R (e1.trans e2) _ _ hd, h3, fun ρ3 H3 e3 R3 =>
    k ρ3 σ H3 ((e1.trans e2).trans e3) R3 (Er.ext R ((e1.trans e2).trans e3))⟩⟩⟩
end
end Mx


/-! Mx8: what loops and comprehensions walk; for, while, list comprehensions by the store. -/
namespace Mx
open PySem PySem.Spec L2
variable {T : List (Addr × Str)}

/-! ### a list that is being made stands beside the store -/
/-- tuples and locked things stay; the store may grow -/
structure Mv (ρ : List Addr) (H : Hp) (ρ' : List Addr) (H' : Hp) : Prop where
  pre : ρ <+: ρ'
  tups : ∀ a xs, H a = some (.tup xs) → H' a = some (.tup xs)
  frzs : ∀ a ob u, H a = some (.frz ob u) → (∀ ws, u ≠ .dK ws) → H' a = some (.frz ob u)
section
variable {K : PySem.W.Frag} {ρ ρ' : List Addr} {H H' : Hp} {st : S} {p : Addr} {acc acc' : List V}
theorem Mv.get (e : Mv ρ H ρ' H') {i : Nat} {a : Addr} (h : ρ[i]? = some a) : ρ'[i]? = some a := by
  obtain ⟨t, rfl⟩ := e.pre
  have hi := (List.getElem?_eq_some_iff.mp h).1
  rw [List.getElem?_append_left hi]; exact h
theorem Mv.side (h : H p = some (.lst acc)) : Mv ρ H ρ (upd H p (.lst acc')) :=
  ⟨List.prefix_refl _, fun a xs q => by rw [upd_ne (ne_of q h fun z => nomatch z)]; exact q, fun a ob u q _ => by rw [upd_ne (ne_of q h fun z => nomatch z)]; exact q⟩
/-- a dict is let go again -/
theorem Mv.free {ob : Obj} {ws : List (Key × V)} {u : HO} (h : H p = some (.frz ob (.dK ws))) : Mv ρ H ρ (upd H p u) :=
  ⟨List.prefix_refl _, fun a xs q => by rw [upd_ne (ne_of q h fun z => nomatch z)]; exact q, fun a o v q n => by
    rw [upd_ne (fun z => by rw [z, h] at q; cases q; exact n ws rfl)]; exact q⟩
theorem Mv.more : Mv ρ H (ρ ++ [p]) H := ⟨List.prefix_append _ _, fun _ _ q => q, fun _ _ _ q _ => q⟩
theorem SqT.mv (m : Mv ρ H ρ' H') {a : Addr} {xs : List V} (q : SqT K H a xs) : SqT K H' a xs := by
  rcases q with (q | ⟨o, q⟩) | q
  · exact .inl (.inl (m.tups _ _ q))
  · exact .inl (.inr ⟨o, m.frzs _ _ _ q fun _ z => nomatch z⟩)
  · exact .inr q
theorem RoL.mv (m : Mv ρ H ρ' H') {a : Addr} {xs : List V} (q : RoL K H a xs) : RoL K H' a xs := by
  rcases q with ⟨o, q⟩ | q
  · exact .inl ⟨o, m.frzs _ _ _ q fun _ z => nomatch z⟩
  · exact .inr q
mutual
theorem DR.mv (m : Mv ρ H ρ' H') : ∀ (d : D) (v : V), DR K ρ H d v → DR K ρ' H' d v
  | .non, _, q => by rw [DR] at q ⊢; exact q
  | .bl _, _, q => by rw [DR] at q ⊢; exact q
  | .int _, _, q => by rw [DR] at q ⊢; exact q
  | .str _, _, q => by rw [DR] at q ⊢; exact q
  | .ty _, _, q => by rw [DR] at q ⊢; exact q
  | .ref _, _, q => by rw [DR] at q ⊢; obtain ⟨a, h1, h2⟩ := q; exact ⟨a, h1, m.get h2⟩
  | .tup ds, _, q => by rw [DR] at q ⊢; obtain ⟨a, vs, h1, h2, h3⟩ := q; exact ⟨a, vs, h1, m.tups _ _ h2, DRs.mv m ds vs h3⟩
  | .rot ds, _, q => by rw [DR] at q ⊢; obtain ⟨a, vs, h1, h2, h3⟩ := q; exact ⟨a, vs, h1, SqT.mv m h2, DRs.mv m ds vs h3⟩
  | .rol ds, _, q => by rw [DR] at q ⊢; obtain ⟨a, vs, h1, h2, h3⟩ := q; exact ⟨a, vs, h1, RoL.mv m h2, DRs.mv m ds vs h3⟩
theorem DRs.mv (m : Mv ρ H ρ' H') : ∀ (ds : List D) (vs : List V), DRs K ρ H ds vs → DRs K ρ' H' ds vs
  | [], _, q => by rw [DRs] at q ⊢; exact q
  | d :: ds, _, q => by
    rw [DRs] at q ⊢
    obtain ⟨v, r, h1, h2, h3⟩ := q
    exact ⟨v, r, h1, DR.mv m d v h2, DRs.mv m ds r h3⟩
end
theorem KR.mv {κ : Type} (m : Mv ρ H ρ' H') : ∀ (ps : List (κ × D)) (ws : List (κ × V)), KR K ρ H ps ws → KR K ρ' H' ps ws
  | [], _, q => q
  | _ :: ps, _, ⟨q, r, h1, h2, h3, h4⟩ => ⟨q, r, h1, h2, DR.mv m _ _ h3, KR.mv m ps r h4⟩
theorem OR.mv (m : Mv ρ H ρ' H') {a : Addr} {o : O} (hk : H' a = H a) (q : OR K ρ H a o) : OR K ρ' H' a o := by
  cases o with
  | lst ds => obtain ⟨vs, h1, g⟩ := q; exact ⟨vs, hk.trans h1, DRs.mv m _ _ g⟩
  | dic kvs => obtain ⟨ws, h1, g⟩ := q; exact ⟨ws, hk.trans h1, KR.mv m _ _ g⟩
  | dit kvs => obtain ⟨ws, h1, g⟩ := q; exact ⟨ws, hk.trans h1, KR.mv m _ _ g⟩
  | dif kvs => obtain ⟨ob, ws, h1, g⟩ := q; exact ⟨ob, ws, hk.trans h1, KR.mv m _ _ g⟩
theorem Rel.side (R : Rel T K ρ H st) (h : H p = some (.lst acc)) (hp : p ∉ ρ) : Rel T K ρ (upd H p (.lst acc')) st :=
  ⟨Tabs.mv R.tab fun b u e n => by rw [upd_ne (fun z => by subst z; rw [h] at e; cases e; exact n (.inl ⟨_, rfl⟩))]; exact e, R.len, R.nd, fun i a o hi ho => (R.obj i a o hi ho).mv (Mv.side h) (upd_ne fun z => hp (z ▸ List.mem_of_getElem? hi))⟩
theorem Ext.any {u : HO} (h : H p = none) : Ext ρ H ρ (upd H p u) := Ext.fresh h
theorem Rel.any (R : Rel T K ρ H st) {u : HO} (h : H p = none) : Rel T K ρ (upd H p u) st := by
  refine ⟨Tabs.fresh R.tab h, R.len, R.nd, fun i a o hi ho => ?_⟩
  have q := R.obj i a o hi ho
  obtain ⟨w, hw, _⟩ := q.some
  exact q.ext R (Ext.any h) (upd_ne (ne_of_none hw h))
/-- the list is done: it joins the store -/
theorem Rel.join (R : Rel T K ρ H st) {ds : List D} (h : H p = some (.lst acc)) (hp : p ∉ ρ) (hd : DRs K ρ H ds acc) : Rel T K (ρ ++ [p]) H (st ++ [.lst ds]) := by
  refine ⟨R.tab, by rw [List.length_append, List.length_append, R.len]; rfl, ?_, fun i a x hi hx => ?_⟩
  · rw [List.nodup_append]
    refine ⟨R.nd, by simp, fun a ha b hb e => ?_⟩
    have : b = p := by simpa using hb
    subst this; subst e; exact hp ha
  · by_cases hl : i < ρ.length
    · rw [List.getElem?_append_left hl] at hi
      rw [List.getElem?_append_left (by rw [← R.len]; exact hl)] at hx
      exact (R.obj i a x hi hx).mv Mv.more rfl
    · have hle : ρ.length ≤ i := Nat.le_of_not_lt hl
      rw [List.getElem?_append_right hle] at hi
      rw [List.getElem?_append_right (by rw [← R.len]; exact hle)] at hx
      have hi0 : i - ρ.length = 0 := by
        have := (List.getElem?_eq_some_iff.mp hi).1
        simp at this; omega
      have hx0 : i - st.length = 0 := by rw [← R.len]; exact hi0
      rw [hi0] at hi
      rw [hx0] at hx
      simp at hi hx
      subst hi; subst hx
      exact ⟨acc, h, DRs.mv Mv.more _ _ hd⟩
end

/-! ### what is walked -/
inductive Src where
  | seq (ds : List D) | live (n : Nat) | rng (lo : Int) (n : Nat) | chars (x : Str) | zip (xs ys : List D)
inductive Lap where
  | stop | got (d : D) | bad
def lapOf : Option D → Lap
  | some d => .got d
  | none => .stop
def zipAt : Option D → Option D → Lap
  | some x, some y => .got (.tup [x, y])
  | _, _ => .stop
def liveAt (i : Nat) : Option O → Lap
  | some (.lst ds) => lapOf ds[i]?
  | _ => .bad
def chrAt : Option Nat → Lap
  | some c => .got (.str ⟨#[c]⟩)
  | none => .stop
def Src.at (s : Src) (st : S) (i : Nat) : Lap := match s with
  | .seq ds => lapOf ds[i]?
  | .live n => liveAt i st[n]?
  | .rng lo n => if i < n then .got (.int (lo + i)) else .stop
  | .chars x => chrAt x.cps[i]?
  | .zip xs ys => zipAt xs[i]? ys[i]?
def LapOk (T : List (Addr × Str)) (K : PySem.W.Frag) (ρ : List Addr) (H : Hp) (st : S) (J : It) (i : Nat) : Lap → Prop
  | .stop => J.stop i H
  | .got d => J.go i H ∧ ∀ x H2, J.yld i H x H2 → Ext ρ H ρ H2 ∧ Rel T K ρ H2 st ∧ DR K ρ H2 d x
  | .bad => True
def SrcOk (T : List (Addr × Str)) (K : PySem.W.Frag) (ρ : List Addr) (H : Hp) (s : Src) (J : It) : Prop := ∀ (ρ1 : List Addr) (H1 : Hp) (st1 : S) (i : Nat), Ext ρ H ρ1 H1 → Rel T K ρ1 H1 st1 → LapOk T K ρ1 H1 st1 J i (s.at st1 i)
theorem SrcOk.ext {K : PySem.W.Frag} {ρ ρ1 : List Addr} {H H1 : Hp} {s : Src} {J : It} (h : SrcOk T K ρ H s J) (e : Ext ρ H ρ1 H1) : SrcOk T K ρ1 H1 s J := fun ρ2 H2 st2 i e2 R => h ρ2 H2 st2 i (e.trans e2) R
def iM (T : List (Addr × Str)) (K : PySem.W.Frag) (m : Es → M Src) : TI := fun σ H R => ∃ (ρ : List Addr) (st : S) (es : Es) (s : Src) (st' : S), Rel T K ρ H st ∧ ER K ρ H es σ ∧ m es st = some (s, st') ∧
  ∀ (ρ' : List Addr) (H' : Hp) (J : It), Ext ρ H ρ' H' → Rel T K ρ' H' st' → SrcOk T K ρ' H' s J → R J H'
section
variable {K : PySem.W.Frag} {ρ : List Addr} {H : Hp} {st : S}
theorem DRs.at {ds : List D} {vs : List V} (h : DRs K ρ H ds vs) (i : Nat) : (ds[i]? = none ∧ vs.length ≤ i) ∨ ∃ d v, ds[i]? = some d ∧ vs[i]? = some v ∧ DR K ρ H d v := by
  cases q : ds[i]? with
  | none =>
    have := List.getElem?_eq_none_iff.mp q
    exact .inl ⟨rfl, by rw [h.length]; exact this⟩
  | some d =>
    obtain ⟨v, h1, h2⟩ := h.get q
    exact .inr ⟨d, v, rfl, h1, h2⟩
theorem src_list {ds : List D} {a : Addr} {vs : List V} (R : Rel T K ρ H st) (q : RoL K H a vs) (hd : DRs K ρ H ds vs) : SrcOk T K ρ H (.seq ds) (Itl K a) := by
  intro ρ1 H1 st1 i e R1
  have q1 := RoL.ext R e q
  show LapOk T K ρ1 H1 st1 (Itl K a) i (lapOf ds[i]?)
  rcases (DRs.ext R e _ _ hd).at i with ⟨h1, h2⟩ | ⟨d, v, h1, h2, h3⟩
  · rw [h1]; exact ⟨vs, q1.sq, h2⟩
  · rw [h1]
    refine ⟨⟨vs, v, q1.sq, h2⟩, fun x H2 y => ?_⟩
    obtain ⟨rfl, y⟩ := y
    have := y vs q1.sq
    rw [h2] at this; cases this
    exact ⟨Ext.refl _ _, R1, h3⟩
theorem src_tup {ds : List D} {a : Addr} {vs : List V} (R : Rel T K ρ H st) (q : SqT K H a vs) (hd : DRs K ρ H ds vs) : SrcOk T K ρ H (.seq ds) (Itt K a) := by
  intro ρ1 H1 st1 i e R1
  have q1 := SqT.ext R e q
  show LapOk T K ρ1 H1 st1 (Itt K a) i (lapOf ds[i]?)
  rcases (DRs.ext R e _ _ hd).at i with ⟨h1, h2⟩ | ⟨d, v, h1, h2, h3⟩
  · rw [h1]; exact ⟨vs, q1, h2⟩
  · rw [h1]
    refine ⟨⟨vs, v, q1, h2⟩, fun x H2 y => ?_⟩
    obtain ⟨rfl, y⟩ := y
    have := y vs q1
    rw [h2] at this; cases this
    exact ⟨Ext.refl _ _, R1, h3⟩
theorem src_live {n : Nat} {a : Addr} (hn : ρ[n]? = some a) : SrcOk T K ρ H (.live n) (Itl K a) := by
  intro ρ1 H1 st1 i e R1
  have h1 := e.get hn
  show LapOk T K ρ1 H1 st1 (Itl K a) i (liveAt i st1[n]?)
  cases q : st1[n]? with
  | none => trivial
  | some o =>
    cases o with
    | lst ds =>
      obtain ⟨vs, h2, h3⟩ := R1.obj n a _ h1 q
      show LapOk T K ρ1 H1 st1 (Itl K a) i (lapOf ds[i]?)
      rcases h3.at i with ⟨h4, h5⟩ | ⟨d, v, h4, h5, h6⟩
      · rw [h4]; exact ⟨vs, SqL.of h2, h5⟩
      · rw [h4]
        refine ⟨⟨vs, v, SqL.of h2, h5⟩, fun x H2 y => ?_⟩
        obtain ⟨rfl, y⟩ := y
        have := y vs (SqL.of h2)
        rw [h5] at this; cases this
        exact ⟨Ext.refl _ _, R1, h6⟩
    | _ => trivial
theorem src_rng {lo : Int} {n : Nat} : SrcOk T K ρ H (.rng lo n) (Itr lo n) := by
  intro ρ1 H1 st1 i e R1
  show LapOk T K ρ1 H1 st1 (Itr lo n) i (if i < n then .got (.int (lo + i)) else .stop)
  by_cases h : i < n
  · rw [if_pos h]
    refine ⟨h, fun x H2 y => ?_⟩
    obtain ⟨rfl, rfl⟩ := y
    exact ⟨Ext.refl _ _, R1, by rw [DR]⟩
  · rw [if_neg h]; exact Nat.le_of_not_lt h
theorem src_chars {x : Str} : SrcOk T K ρ H (.chars x) (Its x) := by
  intro ρ1 H1 st1 i e R1
  show LapOk T K ρ1 H1 st1 (Its x) i (chrAt x.cps[i]?)
  cases q : x.cps[i]? with
  | none => exact Array.getElem?_eq_none_iff.mp q
  | some c =>
    refine ⟨(Array.getElem?_eq_some_iff.mp q).1, fun v H2 y => ?_⟩
    obtain ⟨rfl, c', h1, rfl⟩ := y
    rw [q] at h1; cases h1
    exact ⟨Ext.refl _ _, R1, by rw [DR]⟩
theorem src_zip {xs ys : List D} {a b : Addr} {vs ws : List V} (R : Rel T K ρ H st) (q : SqT K H a vs) (hd : DRs K ρ H xs vs) (q' : SqT K H b ws) (hd' : DRs K ρ H ys ws) : SrcOk T K ρ H (.zip xs ys) (RZ.ItzT K a b) := by
  intro ρ1 H1 st1 i e R1
  have q1 := SqT.ext R e q
  have q2 := SqT.ext R e q'
  show LapOk T K ρ1 H1 st1 (RZ.ItzT K a b) i (zipAt xs[i]? ys[i]?)
  rcases (DRs.ext R e _ _ hd).at i with ⟨h1, h2⟩ | ⟨d, v, h1, h2, h3⟩
  · rw [h1]; exact ⟨vs, ws, q1, q2, .inl h2⟩
  · rcases (DRs.ext R e _ _ hd').at i with ⟨g1, g2⟩ | ⟨d', v', g1, g2, g3⟩
    · rw [h1, g1]; exact ⟨vs, ws, q1, q2, .inr g2⟩
    · rw [h1, g1]
      refine ⟨⟨vs, ws, v, v', q1, q2, h2, g2⟩, fun x H2 y => ?_⟩
      obtain ⟨T, x1, y1, rfl, hT, rfl, y1', y2'⟩ := y
      have e1 := y1' vs q1
      have e2 := y2' ws q2
      rw [h2] at e1; cases e1
      rw [g2] at e2; cases e2
      exact ⟨Ext.tup hT, R1.tup hT, by rw [DR]; exact ⟨T, _, rfl, upd_same, DRs.ext R1 (Ext.tup hT) _ _ (DRs.cons h3 (DRs.cons g3 DRs.nil))⟩⟩
end

/-! ### the rules -/
def seqSrc : D → M Src
  | .tup ds => pure (.seq ds)
  | .rot ds => pure (.seq ds)
  | .rol ds => pure (.seq ds)
  | .ref n => fun st => match st[n]? with
    | some (.lst _) => some (.live n, st)
    | _ => none
  | .str x => pure (.chars x)
  | _ => fail
def overS (me : Es → M D) : Es → M Src := fun es => do
  let x ← me es
  seqSrc x
def small62 (j : Int) : Bool := decide (-(2 ^ 62) ≤ j) && decide (j < 2 ^ 62)
def rng1S (me : Es → M D) : Es → M Src := fun es => do
  let x ← me es
  match x with
    | .int j => do
      guardM (small62 j)
      pure (.rng 0 j.toNat)
    | _ => fail
def rng2S (me mf : Es → M D) : Es → M Src := fun es => do
  let x ← me es
  let y ← mf es
  match x, y with
    | .int i, .int j => do
      guardM (small62 i && small62 j)
      pure (.rng i (j - i).toNat)
    | _, _ => fail
def zipS (me mf : Es → M D) : Es → M Src := fun es => do
  let x ← me es
  let y ← mf es
  match x, y with
    | .tup xs, .tup ys => pure (.zip xs ys)
    | _, _ => fail
theorem small62_of {j : Int} (h : small62 j = true) : -(2 ^ 62) ≤ j ∧ j < 2 ^ 62 := by
  unfold small62 at h
  simp only [Bool.and_eq_true, decide_eq_true_eq] at h
  exact h
section
variable {X : Cx} {tg e : Expr} {me : Es → M D} {ma : Es → M (List D)}
theorem PI.as {t t' : TI} (h : PI X tg e t) (i : ∀ σ H R, t' σ H R → t σ H R) : PI X tg e t' := ⟨fun pins s σ H R I q => h.run pins s σ H R I (i σ H R q)⟩
/-- over whatever stands there: a list, a tuple, a text -/
def iAny (K : PySem.W.Frag) (te : TE) : TI := fun σ H R => te σ H fun x H1 => (∃ a, x = .ref a ∧ (∃ xs, SqL K H1 a xs) ∧ R (Itl K a) H1) ∨ (∃ a, x = .ref a ∧ (∃ xs, SqT K H1 a xs) ∧ R (Itt K a) H1) ∨ ∃ z, x = .str z ∧ R (Its z) H1
theorem pi_any {te : TE} (he : PE X e te) : PI X tg e (iAny X.K te) := by
  refine ⟨fun pins s σ H R I h => thn (he.run pins s σ H _ I h) fun v s1 ⟨x, H1, I1, r1, q1⟩ => ?_⟩
  have fresh : ∀ {J : It} {H2 : Hp} {p : Addr}, R J H2 → R J H2 := fun q => q
  rcases q1 with ⟨a, rfl, ⟨xs, hq⟩, q⟩ | ⟨a, rfl, ⟨xs, hq⟩, q⟩ | ⟨z, rfl, q⟩
  · cases r1
    obtain ⟨its, rv, p, hz⟩ := I1.list hq
    exact wpAny_pyIter_list p.isList (pi_one (tk := s1.toks) I1 _ (turn_list a _) ⟨_, Heap.get?_push_size _ rfl, rfl, rfl⟩ q)
  · cases r1
    obtain ⟨its, rv, p, hz⟩ := I1.tuple hq
    exact wpAny_pyIter_tuple (show s1.heap.IsTuple a its.toArray from p) (pi_one (tk := s1.toks) I1 _ (turn_tuple a _) ⟨_, Heap.get?_push_size _ rfl, rfl, rfl⟩ q)
  · obtain ⟨t, rfl⟩ := r1
    cases ha : z.cps.all (· < 128)
    · exact wpAny_pyIter_wide ha (pi_one (tk := s1.toks) I1 _ (turn_str _ z t "str_iterator" (.inr rfl)) ⟨_, Heap.get?_push_size _ rfl, rfl, rfl⟩ q)
    · exact wpAny_pyIter_ascii ha (pi_one (tk := s1.toks) I1 _ (turn_str _ z t "str_ascii_iterator" (.inl rfl)) ⟨_, Heap.get?_push_size _ rfl, rfl, rfl⟩ q)
theorem iover (he : PE X e (eM T X.K me)) : PI X tg e (iM T X.K (overS me)) := PI.as (pi_any he) fun σ H R0 h => by
  obtain ⟨ρ, st, es, s, st', R, Er, hm, k⟩ := h
  obtain ⟨x, s1, h1, h2⟩ := bind_some hm
  refine ⟨ρ, st, es, x, s1, R, Er, h1, fun ρ1 v1 H1 e1 R1 d1 => ?_⟩
  cases x with
  | tup ds =>
    obtain ⟨rfl, rfl⟩ := pure_some h2
    obtain ⟨a, vs, rfl, q1, q2⟩ := d1.tup
    exact .inr (.inl ⟨a, rfl, ⟨vs, q1⟩, k ρ1 H1 _ e1 R1 (src_tup R1 q1 q2)⟩)
  | rot ds =>
    obtain ⟨rfl, rfl⟩ := pure_some h2
    obtain ⟨a, vs, rfl, q1, q2⟩ := d1.rot
    exact .inr (.inl ⟨a, rfl, ⟨vs, q1⟩, k ρ1 H1 _ e1 R1 (src_tup R1 q1 q2)⟩)
  | rol ds =>
    obtain ⟨rfl, rfl⟩ := pure_some h2
    obtain ⟨a, vs, rfl, q1, q2⟩ := d1.rol
    exact .inl ⟨a, rfl, ⟨vs, q1.sq⟩, k ρ1 H1 _ e1 R1 (src_list R1 q1 q2)⟩
  | ref n =>
    have h3 : (match s1[n]? with | some (.lst _) => some (Src.live n, s1) | _ => none) = some (s, st') := h2
    split at h3
    · rename_i ds hn
      cases h3
      obtain ⟨a, vs, rfl, hp, q1, q2⟩ := R1.lst d1 hn
      exact .inl ⟨a, rfl, ⟨vs, SqL.of q1⟩, k ρ1 H1 _ e1 R1 (src_live hp)⟩
    · cases h3
  | str z =>
    obtain ⟨rfl, rfl⟩ := pure_some h2
    exact .inr (.inr ⟨z, d1.str, k ρ1 H1 _ e1 R1 src_chars⟩)
  | _ => cases h2
theorem irange1 {a : Expr} {p pos : Pos} (hg : Gl X "range") (hm : X.mg "range" = none) (ha : PE X a (eM T X.K me)) (hn : starEach [a] X.env = (false, eval a X.env) :: starEach [] X.env := by rfl) (hs : starEach [a] X.env = [(false, eval a X.env)] := by rfl) : PI X tg (.Call (.Name "range" p) [a] [] pos) (iM T X.K (rng1S me)) :=
  PI.as (pi_range1 hg hm (pa_cons ha pa_nil hn) hs) fun σ H R0 h => by
    obtain ⟨ρ, st, es, s, st', R, Er, hm2, k⟩ := h
    obtain ⟨x, s1, h1, h2⟩ := bind_some hm2
    refine ⟨ρ, st, es, x, s1, R, Er, h1, fun ρ1 v1 H1 e1 R1 d1 => ?_⟩
    cases x with
    | int j =>
      obtain ⟨hz, h3⟩ := guarded h2
      obtain ⟨rfl, rfl⟩ := pure_some h3
      have z := small62_of hz
      exact ⟨j, by rw [d1.int], z.1, z.2, k ρ1 H1 _ e1 R1 src_rng⟩
    | _ => cases h2
theorem irange2 {a b : Expr} {mf : Es → M D} {p pos : Pos} (hg : Gl X "range") (hm : X.mg "range" = none) (ha : PE X a (eM T X.K me)) (hb : PE X b (eM T X.K mf)) (hn : starEach [a, b] X.env = (false, eval a X.env) :: starEach [b] X.env := by rfl) (hn2 : starEach [b] X.env = (false, eval b X.env) :: starEach [] X.env := by rfl)
    (hs : starEach [a, b] X.env = [(false, eval a X.env), (false, eval b X.env)] := by rfl) (hs2 : starEach [b] X.env = [(false, eval b X.env)] := by rfl) : PI X tg (.Call (.Name "range" p) [a, b] [] pos) (iM T X.K (rng2S me mf)) :=
  PI.as (pi_range2 hg hm (pa_cons ha (pa_cons hb pa_nil hn2) hn) hs hs2) fun σ H R0 h => by
    obtain ⟨ρ, st, es, s, st', R, Er, hm2, k⟩ := h
    obtain ⟨x, s1, h1, h2⟩ := bind_some hm2
    obtain ⟨y, s2, h3, h4⟩ := bind_some h2
    refine ⟨ρ, st, es, x, s1, R, Er, h1, fun ρ1 v1 H1 e1 R1 d1 => ⟨ρ1, s1, es, y, s2, R1, Er.ext R e1, h3, fun ρ2 v2 H2 e2 R2 d2 => ?_⟩⟩
    have d1' := DR.ext R1 e2 _ _ d1
    cases x with
    | int i => cases y with
      | int j =>
        obtain ⟨hz, h5⟩ := guarded h4
        obtain ⟨rfl, rfl⟩ := pure_some h5
        rw [Bool.and_eq_true] at hz
        have z := small62_of hz.1
        have z' := small62_of hz.2
        exact ⟨i, j, by rw [d1'.int, d2.int], ⟨z.1, z.2, z'.1, z'.2⟩, k ρ2 H2 _ (e1.trans e2) R2 src_rng⟩
      | _ => cases h4
    | _ => cases y <;> cases h4
theorem izip {a b : Expr} {mf : Es → M D} {p pos tpos : Pos} {elts : List Expr} {kk : Nat} (hg : Gl X "zip") (hm : X.mg "zip" = none) (ha : PE X a (eM T X.K me)) (hb : PE X b (eM T X.K mf)) (hn2 : starEach [b] X.env = (false, eval b X.env) :: starEach [] X.env := by rfl)
    (hs : starEach [a, b] X.env = (false, eval a X.env) :: starEach [b] X.env := by rfl) (hpl : (backTo pos (starEach [b] X.env)).any (·.1) = false := by rfl) : PI X (.Tuple elts kk tpos) (.Call (.Name "zip" p) [a, b] [] pos) (iM T X.K (zipS me mf)) :=
  PI.as (RZ.pi_zipA hg hm (pa_cons ha (pa_cons hb pa_nil hn2) hs) hs hpl) fun σ H R0 h => by
    obtain ⟨ρ, st, es, s, st', R, Er, hm2, k⟩ := h
    obtain ⟨x, s1, h1, h2⟩ := bind_some hm2
    obtain ⟨y, s2, h3, h4⟩ := bind_some h2
    refine ⟨ρ, st, es, x, s1, R, Er, h1, fun ρ1 v1 H1 e1 R1 d1 => ⟨ρ1, s1, es, y, s2, R1, Er.ext R e1, h3, fun ρ2 v2 H2 e2 R2 d2 => ?_⟩⟩
    have d1' := DR.ext R1 e2 _ _ d1
    cases x with
    | tup xs => cases y with
      | tup ys =>
        obtain ⟨rfl, rfl⟩ := pure_some h4
        obtain ⟨a1, vs, rfl, q1, q2⟩ := d1'.tup
        obtain ⟨b1, ws, rfl, q3, q4⟩ := d2.tup
        exact ⟨a1, b1, vs, ws, rfl, .inr ⟨q1, q3, k ρ2 H2 _ (e1.trans e2) R2 (src_zip R2 q1 q2 q3 q4)⟩⟩
      | _ => cases h4
    | _ => cases y <;> cases h4
end

/-! ### for -/
def lapS (s : Src) (g : D → Es → M Es) (b : Es → M (Es × Fl)) : Nat → Nat → Es → M (Es × Fl)
  | 0, _, _ => fail
  | n + 1, i, es => fun st => match s.at st i with
    | .stop => some ((es, .nx), st)
    | .bad => none
    | .got d => (do
      let es1 ← g d es
      let p ← b es1
      match p.2 with
        | .nx => lapS s g b n (i + 1) p.1
        | .ct => lapS s g b n (i + 1) p.1
        | .bk => pure (p.1, .nx)
        | .rt d => pure (p.1, .rt d)) st
def forS (L : Nat) (src : Es → M Src) (g : D → Es → M Es) (b : Es → M (Es × Fl)) : Es → M (Es × Fl) := fun es => do
  let s ← src es
  lapS s g b L 0 es
/-- what a loop is to reach: its end, or a return -/
def Out (T : List (Addr × Str)) (K : PySem.W.Frag) (ρ : List Addr) (H : Hp) (E : Ends) (q : (Es × Fl) × S) : Prop := (q.1.2 = .nx ∨ ∃ d, q.1.2 = .rt d) ∧ Done T K ρ H q.1.1 q.2 E q.1.2
theorem lapS_nx {s : Src} {g : D → Es → M Es} {b : Es → M (Es × Fl)} : ∀ (n i : Nat) (es es' : Es) (f : Fl) (st st' : S), lapS s g b n i es st = some ((es', f), st') → f = .nx ∨ ∃ d, f = .rt d
  | 0, _, _, _, _, _, _, h => by cases h
  | n + 1, i, es, es', f, st, st', h => by
    unfold lapS at h
    split at h
    · cases h; exact .inl rfl
    · cases h
    · obtain ⟨es1, s1, h1, h2⟩ := bind_some h
      obtain ⟨⟨es2, f2⟩, s2, h3, h4⟩ := bind_some h2
      cases f2 with
      | nx => exact lapS_nx n (i + 1) _ _ _ _ _ h4
      | ct => exact lapS_nx n (i + 1) _ _ _ _ _ h4
      | bk => obtain ⟨_, rfl, _⟩ := pair_some h4; exact .inl rfl
      | rt d => obtain ⟨_, rfl, _⟩ := pair_some h4; exact .inr ⟨d, rfl⟩
section
variable {X : Cx} {tg iter : Expr} {body : List Stmt} {pos : Pos} {src : Es → M Src} {g : D → Es → M Es} {b : Es → M (Es × Fl)}
theorem sfor (L : Nat) (hp : PassesOwn (model X.prog X.w) X.A X.env X.xe) (hc : X.calm = true) (hi : PI X tg iter (iM T X.K src)) (hg : PG X tg (gM T X.K g)) (hb : PSs X body (sM T X.K b))
    (hs : ∀ x, foldedSetIterable iter X.env x = pure x := by intro _; rfl) : PS X (.For tg iter body [] pos) (sM T X.K (forS L src g b)) :=
  PS.as (ps_for hp hc hi hg hb hs) fun E σ H h => by
    obtain ⟨ρ, st, es, es', f, st', R, Er, hm, k⟩ := h
    obtain ⟨s, s1, h1, h2⟩ := bind_some hm
    refine ⟨ρ, st, es, s, s1, R, Er, h1, fun ρ1 H1 J e1 R1 hJ => ?_⟩
    refine ⟨fun i m σ2 H2 => ∃ (ρ2 : List Addr) (es2 : Es) (st2 : S), Ext ρ1 H1 ρ2 H2 ∧ Rel T X.K ρ2 H2 st2 ∧ ER X.K ρ2 H2 es2 σ2 ∧ lapS s g b m i es2 st2 = some ((es', f), st'), ⟨L, ρ1, es, s1, Ext.refl _ _, R1, Er.ext R e1, h2⟩, ?_⟩
    rintro i m σ2 H2 ⟨ρ2, es2, st2, e2, R2, Er2, h3⟩
    cases m with
    | zero => cases h3
    | succ m =>
      have lap := hJ ρ2 H2 st2 i e2 R2
      unfold lapS at h3
      cases q : s.at st2 i with
      | stop =>
        rw [q] at h3 lap
        have h3' : some ((es2, Fl.nx), st2) = some ((es', f), st') := h3
        cases h3'
        exact .inl ⟨lap, k ρ2 σ2 H2 (e1.trans e2) R2 Er2⟩
      | bad => rw [q] at h3; cases h3
      | got d =>
        rw [q] at h3 lap
        refine .inr ⟨lap.1, fun σ3 H3 => ∃ m', m' < m + 1 ∧ ∃ (ρ2 : List Addr) (es2 : Es) (st2 : S), Ext ρ1 H1 ρ2 H3 ∧ Rel T X.K ρ2 H3 st2 ∧ ER X.K ρ2 H3 es2 σ3 ∧ lapS s g b m' (i + 1) es2 st2 = some ((es', f), st'), fun σ' H' q => q, fun x H3 y => ?_⟩
        obtain ⟨e3, R3, d3⟩ := lap.2 x H3 y
        have h4 : (do
          let es1 ← g d es2
          let p ← b es1
          match p.2 with
            | .nx => lapS s g b m (i + 1) p.1
            | .ct => lapS s g b m (i + 1) p.1
            | .bk => pure (p.1, .nx)
            | .rt d => pure (p.1, .rt d)) st2 = some ((es', f), st') := h3
        obtain ⟨es3, s3, h5, h6⟩ := bind_some h4
        obtain ⟨⟨es4, f4⟩, s4, h7, h8⟩ := bind_some h6
        refine ⟨ρ2, st2, es2, d, es3, s3, R3, Er2.ext R2 e3, d3, h5, fun ρ4 σ4 H4 e4 R4 Er4 => ⟨ρ4, s3, es3, es4, f4, s4, R4, Er4, h7, ?_⟩⟩
        have eAll : Ext ρ1 H1 ρ4 H4 := (e2.trans e3).trans e4
        cases f4 with
        | nx => exact fun ρ5 σ5 H5 e5 R5 Er5 => ⟨m, Nat.lt_succ_self _, ρ5, es4, s4, eAll.trans e5, R5, Er5, h8⟩
        | ct => exact fun ρ5 σ5 H5 e5 R5 Er5 => ⟨m, Nat.lt_succ_self _, ρ5, es4, s4, eAll.trans e5, R5, Er5, h8⟩
        | bk =>
          obtain ⟨rfl, rfl, rfl⟩ := pair_some h8
          exact fun ρ5 σ5 H5 e5 R5 Er5 => k ρ5 σ5 H5 ((e1.trans eAll).trans e5) R5 Er5
        | rt d =>
          obtain ⟨rfl, rfl, rfl⟩ := pair_some h8
          exact k.from (e1.trans eAll)

/-! ### while -/
def loopS (t : Es → M Bool) (b : Es → M (Es × Fl)) : Nat → Es → M (Es × Fl)
  | 0, _ => fail
  | n + 1, es => do
    let q ← t es
    if q then do
      let p ← b es
      match p.2 with
        | .nx => loopS t b n p.1
        | .ct => loopS t b n p.1
        | .bk => pure (p.1, .nx)
        | .rt d => pure (p.1, .rt d)
    else pure (es, .nx)
theorem swhile (L : Nat) {c : Expr} {t : Es → M Bool} (hp : PassesOwn (model X.prog X.w) X.A X.env X.xe) (hc : PT X c (tM T X.K t)) (hb : PSs X body (sM T X.K b)) : PS X (.While c body [] pos) (sM T X.K (loopS t b L)) :=
  PS.as (ps_while hp hc hb) fun E σ H h => by
    obtain ⟨ρ, st, es, es', f, st', R, Er, hm, k⟩ := h
    refine ⟨fun m σ2 H2 => ∃ (ρ2 : List Addr) (es2 : Es) (st2 : S), Ext ρ H ρ2 H2 ∧ Rel T X.K ρ2 H2 st2 ∧ ER X.K ρ2 H2 es2 σ2 ∧ loopS t b m es2 st2 = some ((es', f), st'), ⟨L, ρ, es, st, Ext.refl _ _, R, Er, hm⟩, ?_⟩
    rintro m σ2 H2 ⟨ρ2, es2, st2, e2, R2, Er2, h3⟩
    cases m with
    | zero => cases h3
    | succ m =>
      have h4 : (do
        let q ← t es2
        if q then do
          let p ← b es2
          match p.2 with
            | .nx => loopS t b m p.1
            | .ct => loopS t b m p.1
            | .bk => pure (p.1, .nx)
            | .rt d => pure (p.1, .rt d)
        else pure (es2, .nx)) st2 = some ((es', f), st') := h3
      obtain ⟨q, s3, h5, h6⟩ := bind_some h4
      refine ⟨ρ2, st2, es2, q, s3, R2, Er2, h5, fun ρ3 H3 e3 R3 => ?_⟩
      cases q with
      | false =>
        rw [if_neg Bool.false_ne_true] at h6 ⊢
        obtain ⟨rfl, rfl, rfl⟩ := pair_some h6
        exact k ρ3 σ2 H3 (e2.trans e3) R3 (Er2.ext R2 e3)
      | true =>
        rw [if_pos rfl] at h6 ⊢
        obtain ⟨⟨es4, f4⟩, s4, h7, h8⟩ := bind_some h6
        refine ⟨fun σ3 H3 => ∃ m', m' < m + 1 ∧ ∃ (ρ2 : List Addr) (es2 : Es) (st2 : S), Ext ρ H ρ2 H3 ∧ Rel T X.K ρ2 H3 st2 ∧ ER X.K ρ2 H3 es2 σ3 ∧ loopS t b m' es2 st2 = some ((es', f), st'), fun σ' H' q => q,
          ρ3, s3, es2, es4, f4, s4, R3, Er2.ext R2 e3, h7, ?_⟩
        have eAll : Ext ρ H ρ3 H3 := e2.trans e3
        cases f4 with
        | nx => exact fun ρ5 σ5 H5 e5 R5 Er5 => ⟨m, Nat.lt_succ_self _, ρ5, es4, s4, eAll.trans e5, R5, Er5, h8⟩
        | ct => exact fun ρ5 σ5 H5 e5 R5 Er5 => ⟨m, Nat.lt_succ_self _, ρ5, es4, s4, eAll.trans e5, R5, Er5, h8⟩
        | bk =>
          obtain ⟨rfl, rfl, rfl⟩ := pair_some h8
          exact fun ρ5 σ5 H5 e5 R5 Er5 => k ρ5 σ5 H5 (eAll.trans e5) R5 Er5
        | rt d =>
          obtain ⟨rfl, rfl, rfl⟩ := pair_some h8
          exact k.from eAll
end
end Mx


/-! Mx9: list comprehensions, methods, op=, dict displays, locking. -/
namespace Mx
open PySem PySem.Spec L2
variable {T : List (Addr × Str)}

/-! ### targets of a block: they write the block's own slots -/
def wipeE (es : Es) : List Nat → Es
  | [] => es
  | v :: vs => (wipeE es vs).set v none
theorem ER.wipe {K : PySem.W.Frag} {ρ : List Addr} {H : Hp} {es : Es} {σ : St} (h : ER K ρ H es σ) : ∀ vs : List Nat, ER K ρ H (wipeE es vs) (wipe σ vs)
  | [] => h
  | v :: vs => (ER.wipe h vs).clear
theorem set_set_none (σ : St) (i j : Nat) (x : Option V) : (σ.set i x).set j none = if i = j then σ.set j none else (σ.set j none).set i x := by
  by_cases h : i = j
  · subst h; rw [if_pos rfl, List.set_set]
  · rw [if_neg h, List.set_comm _ _ h]
theorem wipe_set {σ : St} {i : Nat} {x : Option V} : ∀ vs : List Nat, wipe (σ.set i x) vs = if i ∈ vs then wipe σ vs else (wipe σ vs).set i x
  | [] => by rw [if_neg (by simp)]; rfl
  | v :: vs => by
    show (wipe (σ.set i x) vs).set v none = if i ∈ v :: vs then (wipe σ vs).set v none else ((wipe σ vs).set v none).set i x
    rw [wipe_set vs]
    by_cases hi : i ∈ vs
    · rw [if_pos hi, if_pos (List.mem_cons_of_mem _ hi)]
    · rw [if_neg hi, set_set_none]
      by_cases hv : i = v
      · subst hv; rw [if_pos rfl, if_pos (List.mem_cons_self ..)]
      · rw [if_neg hv, if_neg (fun z => (List.mem_cons.mp z).elim hv hi)]
theorem wipe_wipe {σ : St} {ws : List Nat} : ∀ (vs us : List Nat), (∀ v ∈ vs, v ∈ ws) → wipe (wipe σ vs) ws = wipe σ ws
  | [], _, _ => rfl
  | v :: vs, us, h => by
    show wipe ((wipe σ vs).set v none) ws = wipe σ ws
    rw [wipe_set, if_pos (h v (List.mem_cons_self ..))]
    exact wipe_wipe vs us fun x hx => h x (List.mem_cons_of_mem _ hx)
def gW (T : List (Addr × Str)) (K : PySem.W.Frag) (vs : List Nat) (g : D → Es → M Es) : TG := fun v σ H Q => ∃ (ρ : List Addr) (st : S) (es : Es) (d : D) (es' : Es) (st' : S), Rel T K ρ H st ∧ ER K ρ H es σ ∧ DR K ρ H d v ∧ g d es st = some (es', st') ∧
  ∀ (ρ' : List Addr) (σ' : St) (H' : Hp), Ext ρ H ρ' H' → Rel T K ρ' H' st' → ER K ρ' H' es' σ' → wipe σ' vs = wipe σ vs → Q σ' H'
def gsW (T : List (Addr × Str)) (K : PySem.W.Frag) (vs : List Nat) (g : List D → Es → M Es) : TGs := fun ws σ H Q => ∃ (ρ : List Addr) (st : S) (es : Es) (ds : List D) (es' : Es) (st' : S), Rel T K ρ H st ∧ ER K ρ H es σ ∧ DRs K ρ H ds ws ∧ g ds es st = some (es', st') ∧
  ∀ (ρ' : List Addr) (σ' : St) (H' : Hp), Ext ρ H ρ' H' → Rel T K ρ' H' st' → ER K ρ' H' es' σ' → wipe σ' vs = wipe σ vs → Q σ' H'
section
variable {X : Cx} {pos : Pos} {e : Expr} {vs : List Nat} {g : D → Es → M Es}
theorem wname (i : Nat) {x : Str} (hN : X.N.Nodup) (hv : i ∈ vs := by decide) (hi : X.N[i]? = some x := by rfl) (hx : Loc X.env.scope x := by first | exact Or.inl rfl | exact Or.inr rfl) (hf : X.fn x = true ∨ X.env.scope.names.lookup x = some .local := by first | exact .inl rfl | exact .inr rfl) :
    PG X (.Name x pos) (gW T X.K vs (nameG i)) := PG.as (pg_name hN hi hx hf) fun v σ H Q h => by
  obtain ⟨ρ, st, es, d, es', st', R, Er, hd, hm, k⟩ := h
  obtain ⟨rfl, rfl⟩ := pure_some hm
  exact k ρ _ H (Ext.refl _ _) R (Er.set hd) (by rw [wipe_set, if_pos hv])
theorem wnil : PGs X [] (gsW T X.K vs nilG) := PGs.as pgs_nil fun ws σ H Q h => by
  obtain ⟨ρ, st, es, ds, es', st', R, Er, hd, hm, k⟩ := h
  cases ds with
  | nil =>
    obtain ⟨rfl, rfl⟩ := pure_some hm
    rw [DRs] at hd
    exact ⟨hd, k ρ σ H (Ext.refl _ _) R Er rfl⟩
  | cons d r => cases hm
theorem wcons {es : List Expr} {r : List D → Es → M Es} (h1 : PG X e (gW T X.K vs g)) (h2 : PGs X es (gsW T X.K vs r))
    (hs : (assignEach (e :: es) X.env).map (·.2) = assign e X.env :: (assignEach es X.env).map (·.2) := by rfl) : PGs X (e :: es) (gsW T X.K vs (consG g r)) := PGs.as (pgs_cons h1 h2 hs) fun ws σ H Q h => by
  obtain ⟨ρ, st, es, ds, es', st', R, Er, hd, hm, k⟩ := h
  cases ds with
  | nil => cases hm
  | cons d ds =>
    rw [DRs] at hd
    obtain ⟨v, w, rfl, d1, d2⟩ := hd
    obtain ⟨es1, s1, h3, h4⟩ := bind_some hm
    exact ⟨v, w, rfl, ρ, st, es, d, es1, s1, R, Er, d1, h3, fun ρ1 σ1 H1 e1 R1 Er1 w1 => ⟨ρ1, s1, es1, ds, es', st', R1, Er1, DRs.ext R e1 _ _ d2, h4, fun ρ2 σ2 H2 e2 R2 Er2 w2 => k ρ2 σ2 H2 (e1.trans e2) R2 Er2 (w2.trans w1)⟩⟩
theorem wtup {es : List Expr} {k : Nat} {gs : List D → Es → M Es} {n : Nat} (hc : X.calm = true) (h : PGs X es (gsW T X.K vs gs))
    (hn : (assignEach es X.env).length = n := by rfl) (hst : (assignEach es X.env).findIdx? (·.1) = none := by rfl) : PG X (.Tuple es k pos) (gW T X.K vs (tupG n gs)) := PG.as (pg_tup hc h hn hst) fun v σ H Q h => by
  obtain ⟨ρ, st, es, d, es', st', R, Er, hd, hm, k⟩ := h
  cases d with
  | tup ds =>
    obtain ⟨hz, hm2⟩ := guarded hm
    obtain ⟨a, ws, rfl, q1, q2⟩ := hd.tup
    exact ⟨a, ws, rfl, q1, by rw [q2.length]; exact of_decide_eq_true hz, ρ, st, es, ds, es', st', R, Er, q2, hm2, k⟩
  | _ => cases hm
end

/-! ### list comprehensions -/
def lapC (s : Src) (g : D → Es → M Es) (t : Es → M Bool) (e : Es → M D) (es : Es) : Nat → Nat → List D → M (List D)
  | 0, _, _ => fail
  | n + 1, i, acc => fun st => match s.at st i with
    | .stop => some (acc, st)
    | .bad => none
    | .got d => (do
      let es1 ← g d es
      let q ← t es1
      if q then do
        let y ← e es1
        guardM (decide (acc.length < sizeLine))
        lapC s g t e es n (i + 1) (acc ++ [y])
      else lapC s g t e es n (i + 1) acc) st
def lcD (L : Nat) (vs : List Nat) (src : Es → M Src) (g : D → Es → M Es) (t : Es → M Bool) (e : Es → M D) : Es → M D := fun es => do
  let s ← src es
  let ds ← lapC s g t e (wipeE es vs) L 0 []
  new (.lst ds)
def yesT : Es → M Bool := fun _ => pure true
section
variable {X : Cx} {elt tg iter : Expr} {ifs : List Expr} {scope : Scope} {own : List (Str × Nat)} {pos spos : Pos} {src : Es → M Src} {g : D → Es → M Es} {t : Es → M Bool} {me : Es → M D}
theorem lc_of (L : Nat) {K : PySem.W.Frag} {vs : List Nat} {σ : St} {H : Hp} {Q : VK} (h : eM T K (lcD L vs src g t me) σ H Q) : tLc (iM T K src) (gW T K vs g) (tM T K t) (eM T K me) vs σ H Q := by
  obtain ⟨ρ, st, es, d, st', R, Er, hm, k⟩ := h
  obtain ⟨s, s1, h1, hm2⟩ := bind_some hm
  obtain ⟨ds, s2, h2, h3⟩ := bind_some hm2
  cases h3
  refine ⟨ρ, st, es, s, s1, R, Er, h1, fun ρ1 H1 J e1 R1 hJ p hp => ?_⟩
  refine ⟨fun i m H2 => ∃ (ρ2 : List Addr) (st2 : S) (acc : List D) (av : List V), Ext ρ1 H1 ρ2 H2 ∧ Rel T K ρ2 H2 st2 ∧ H2 p = some (.lst av) ∧ p ∉ ρ2 ∧ DRs K ρ2 H2 acc av ∧ lapC s g t me (wipeE es vs) m i acc st2 = some (ds, s2),
    ⟨L, ρ1, s1, [], [], Ext.any hp, R1.any hp, upd_same, fun z => ?_, DRs.nil, h2⟩, ?_⟩
  · obtain ⟨u, e, _⟩ := R1.at z
    rw [hp] at e; cases e
  rintro i m H2 ⟨ρ2, st2, acc, av, e2, R2, hl, hn, da, h3⟩
  cases m with
  | zero => cases h3
  | succ m =>
    have lap := hJ ρ2 H2 st2 i e2 R2
    unfold lapC at h3
    cases q : s.at st2 i with
    | stop =>
      rw [q] at h3 lap
      have h3' : some (acc, st2) = some (ds, s2) := h3
      cases h3'
      refine .inl ⟨lap, k (ρ2 ++ [p]) _ H2 (e1.trans ⟨e2.pre.trans (List.prefix_append _ _), fun b hb => ?_, e2.keep, e2.tbl, e2.frz⟩) (R2.join hl hn da) (ref_new R2)⟩
      rcases List.mem_append.mp hb with z | z
      · exact e2.new b z
      · have : b = p := by simpa using z
        subst this; exact .inr hp
    | bad => rw [q] at h3; cases h3
    | got d =>
      rw [q] at h3 lap
      have h4 : (do
        let es1 ← g d (wipeE es vs)
        let q ← t es1
        if q then do
          let y ← me es1
          guardM (decide (acc.length < sizeLine))
          lapC s g t me (wipeE es vs) m (i + 1) (acc ++ [y])
        else lapC s g t me (wipeE es vs) m (i + 1) acc) st2 = some (ds, s2) := h3
      obtain ⟨es3, s3, h5, h6⟩ := bind_some h4
      obtain ⟨b, s4, h7, h8⟩ := bind_some h6
      refine .inr ⟨lap.1, fun H3 => ∃ m', m' < m + 1 ∧ ∃ (ρ2 : List Addr) (st2 : S) (acc : List D) (av : List V), Ext ρ1 H1 ρ2 H3 ∧ Rel T K ρ2 H3 st2 ∧ H3 p = some (.lst av) ∧ p ∉ ρ2 ∧ DRs K ρ2 H3 acc av ∧ lapC s g t me (wipeE es vs) m' (i + 1) acc st2 = some (ds, s2), fun H' q => q, fun x H3 y => ?_⟩
      obtain ⟨e3, R3, d3⟩ := lap.2 x H3 y
      have keepP : ∀ {ρ5 : List Addr} {H5 : Hp}, Ext ρ2 H2 ρ5 H5 → H5 p = some (.lst av) ∧ p ∉ ρ5 := fun {ρ5 H5} e5 => by
        refine ⟨e5.keep _ _ hl hn (fun _ z => nomatch z), fun z => ?_⟩
        rcases e5.new p z with z | z
        · exact hn z
        · rw [hl] at z; cases z
      refine ⟨ρ2, st2, wipeE es vs, d, es3, s3, R3, (((Er.ext R e1).ext R1 e2).ext R2 e3).wipe vs, d3, h5, fun ρ4 σ4 H4 e4 R4 Er4 w4 => ⟨?_, ρ4, s3, es3, b, s4, R4, Er4, h7, fun ρ5 H5 e5 R5 => ?_⟩⟩
      · rw [w4]
        exact wipe_wipe vs [] fun _ h => h
      · have eAll : Ext ρ2 H2 ρ5 H5 := (e3.trans e4).trans e5
        cases b with
        | false =>
          rw [if_neg Bool.false_ne_true] at h8
          obtain ⟨k1, k2⟩ := keepP eAll
          exact iteF ⟨m, Nat.lt_succ_self _, ρ5, s4, acc, av, e2.trans eAll, R5, k1, k2, DRs.ext R2 eAll _ _ da, h8⟩
        | true =>
          rw [if_pos rfl] at h8
          refine iteT ?_
          obtain ⟨yv, s5, h9, h10⟩ := bind_some h8
          obtain ⟨hz, h11⟩ := guarded h10
          refine ⟨ρ5, s4, es3, yv, s5, R5, Er4.ext R4 e5, h9, fun ρ6 v6 H6 e6 R6 d6 => ?_⟩
          have eA6 : Ext ρ2 H2 ρ6 H6 := eAll.trans e6
          obtain ⟨k1, k2⟩ := keepP eA6
          refine ⟨av, k1, by rw [da.length]; exact of_decide_eq_true hz, m, Nat.lt_succ_self _, ρ6, s5, acc ++ [yv], av ++ [v6], ?_, R6.side k1 k2, upd_same, k2, DRs.mv (Mv.side k1) _ _ ((DRs.ext R2 eA6 _ _ da).append (DRs.cons d6 DRs.nil)), h11⟩
          have e7 := e2.trans eA6
          exact ⟨e7.pre, e7.new, fun a o q hq ht => by rw [upd_ne (ne_of_none q hp)]; exact e7.keep a o q hq ht, fun a ps q => by rw [upd_ne (ne_of_none q hp)]; exact e7.tbl a ps q, fun a o u q => by rw [upd_ne (ne_of_none q hp)]; exact e7.frz a o u q⟩
theorem ptsnil : PTs X [] (tM T X.K yesT) := ⟨fun pins s σ H Q I h => pts_nil.run pins s σ H Q I (by
  obtain ⟨ρ, st, es, b, st', R, Er, hm, k⟩ := h
  obtain ⟨rfl, rfl⟩ := pure_some hm
  exact k ρ H (Ext.refl _ _) R)⟩
theorem ptsone {c : Expr} (h : PT X c (tM T X.K t)) : PTs X [c] (tM T X.K t) := pts_one h
theorem mlc (L : Nat) (own : List (Str × Nat)) (hc : X.calm = true) (hN : X.N.Nodup) (hi : PI X tg iter (iM T X.K src)) (hok : blkC X.N X.env.scope scope own = true)
    (hg : ∀ (s : Shared) (H : Hp) (C : Addr) (cl : List (Str × Addr)) (fp : List Addr), PG (X.blk s H scope (compEnvC scope cl C X.env) fp) tg (gW T X.K (own.map (·.2)) g))
    (ht : ∀ (s : Shared) (H : Hp) (C : Addr) (cl : List (Str × Addr)) (fp : List Addr), PTs (X.blk s H scope (compEnvC scope cl C X.env) fp) ifs (tM T X.K t))
    (he : ∀ (s : Shared) (H : Hp) (C : Addr) (cl : List (Str × Addr)) (fp : List Addr), PE (X.blk s H scope (compEnvC scope cl C X.env) fp) elt (eM T X.K me)) (hs : ∀ x, foldedSetIterable iter X.env x = pure x := by intro _; rfl) :
    PE X (.ListComp elt [⟨tg, iter, ifs, 0⟩] scope pos) (eM T X.K (lcD L (own.map (·.2)) src g t me)) :=
  PE.as (pe_lc hc hN hi (blkOk_by hok) hg ht he hs) fun _ _ _ h => lc_of L h
/-- name = [..] where the name is a local and all stands on one line -/
theorem ssetLc (i L : Nat) {y : Str} {py : Pos} (own : List (Str × Nat)) (hc : X.calm = true) (hN : X.N.Nodup) (hi : PI X tg iter (iM T X.K src)) (hok : blkC X.N X.env.scope scope own = true)
    (hg : ∀ (s : Shared) (H : Hp) (C : Addr) (cl : List (Str × Addr)) (fp : List Addr), PG (X.blk s H scope (compEnvC scope cl C X.env) fp) tg (gW T X.K (own.map (·.2)) g))
    (ht : ∀ (s : Shared) (H : Hp) (C : Addr) (cl : List (Str × Addr)) (fp : List Addr), PTs (X.blk s H scope (compEnvC scope cl C X.env) fp) ifs (tM T X.K t))
    (he : ∀ (s : Shared) (H : Hp) (C : Addr) (cl : List (Str × Addr)) (fp : List Addr), PE (X.blk s H scope (compEnvC scope cl C X.env) fp) elt (eM T X.K me))
    (hk : X.env.scope.kind = .function := by rfl) (hy : X.N[i]? = some y := by rfl) (hyl : X.env.scope.names.lookup y = some .local := by rfl) (hl : (py.line == pos.line) = true := by rfl)
    (ha : (scope.names.any fun (n, k) => n == y && (k == .local || k == .cell)) = false := by rfl) (hs : ∀ x, foldedSetIterable iter X.env x = pure x := by intro _; rfl) :
    PS X (.Assign [.Name y py] (.ListComp elt [⟨tg, iter, ifs, 0⟩] scope pos) spos) (sM T X.K (asgS (lcD L (own.map (·.2)) src g t me) (nameG i))) :=
  PS.as (ps_setLc hc hN hy hyl (sw_true hk hyl hl ha) hi (blkOk_by hok) hg ht he hs) fun E σ H h => by
    obtain ⟨ρ, st, es, d, st', R, Er, hm, k⟩ := asg_of h
    exact lc_of L ⟨ρ, st, es, d, st', R, Er, hm, fun ρ1 v1 H1 e1 R1 d1 => gname_of (k ρ1 v1 H1 e1 R1 d1)⟩
end

/-! ### methods of lists -/
def mtD (g : D → List D → M D) (o : Es → M D) (a : Es → M (List D)) : Es → M D := fun es => do
  let x ← o es
  let xs ← a es
  g x xs
def isLst : D → M Bool
  | .ref n => fun st => match st[n]? with
    | some (.lst _) => some (true, st)
    | _ => none
  | _ => fail
/-- the receiver is a list of the store -/
def lmD (g : D → List D → M D) (o : Es → M D) (a : Es → M (List D)) : Es → M D := fun es => do
  let x ← o es
  let _ ← isLst x
  let xs ← a es
  g x xs
def appendD : D → List D → M D
  | .ref n, [y] => do
    let xs ← lstAt n
    guardM (decide (xs.length < sizeLine))
    putAt n (.lst (xs ++ [y]))
    pure .non
  | _, _ => fail
def popD : D → List D → M D
  | .ref n, [.int i] => do
    let xs ← lstAt n
    match seqIndex? i xs.length with
      | some k => match xs[k]? with
        | some y => do
          guardM (small62 i)
          putAt n (.lst (xs.eraseIdx k))
          pure y
        | none => fail
      | none => fail
  | _, _ => fail
theorem DRs.erase {K : PySem.W.Frag} {ρ : List Addr} {H : Hp} : ∀ {ds : List D} {vs : List V} (k : Nat), DRs K ρ H ds vs → DRs K ρ H (ds.eraseIdx k) (vs.eraseIdx k)
  | [], _, k, h => by rw [DRs] at h; subst h; simp [DRs]
  | d :: ds, _, 0, h => by
    rw [DRs] at h
    obtain ⟨v, r, rfl, h2, h3⟩ := h
    exact h3
  | d :: ds, _, k + 1, h => by
    rw [DRs] at h
    obtain ⟨v, r, rfl, h2, h3⟩ := h
    rw [List.eraseIdx_cons_succ, List.eraseIdx_cons_succ]
    exact DRs.cons h2 (DRs.erase k h3)
section
variable {X : Cx}
theorem mt_appendM : MtR X "list.append" (rmM T X.K appendD) := by
  intro pins s σ H x xs v us Q I rx rs ⟨ρ, st, a, as, d, st', R, ha, hs, hg, k⟩
  match a, as, hg with
  | .ref n, [y], hg =>
    obtain ⟨ds, s1, h1, hg1⟩ := bind_some hg
    obtain ⟨e1, rfl⟩ := lstAt_some h1
    obtain ⟨hz, hg2⟩ := guarded hg1
    obtain ⟨p, vs, rfl, hp, q1, q2⟩ := R.lst ha e1
    obtain ⟨w, rfl, q3⟩ := hs.one
    cases hg2
    refine mt_append pins s σ H _ _ v us Q I rx rs ⟨p, vs, w, rfl, rfl, q1, by rw [q2.length]; exact of_decide_eq_true hz, ?_⟩
    exact k ρ _ _ (Ext.put R hp (fun _ _ z => by simp_all)) (R.put hp (fun _ _ z => by simp_all) fun H' e x => ⟨_, e, (DRs.ext R x _ _ q2).append (DRs.cons (DR.ext R x _ _ q3) DRs.nil)⟩) (by rw [DR])
theorem mt_popM : MtR X "list.pop" (rmM T X.K popD) := by
  intro pins s σ H x xs v us Q I rx rs ⟨ρ, st, a, as, d, st', R, ha, hs, hg, k⟩
  match a, as, hg with
  | .ref n, [.int i], hg =>
    obtain ⟨ds, s1, h1, hg1⟩ := bind_some hg
    obtain ⟨e1, rfl⟩ := lstAt_some h1
    obtain ⟨p, vs, rfl, hp, q1, q2⟩ := R.lst ha e1
    obtain ⟨w, rfl, q3⟩ := hs.one
    cases hk : seqIndex? i ds.length with
    | none => rw [hk] at hg1; cases hg1
    | some j =>
      cases hy : ds[j]? with
      | none => simp only [hk, hy] at hg1; cases hg1
      | some y =>
        simp only [hk, hy] at hg1
        obtain ⟨hz, hg2⟩ := guarded hg1
        cases hg2
        have z := small62_of hz
        obtain ⟨yv, f1, f2⟩ := q2.get hy
        have hw := q3.int
        subst hw
        refine mt_popAt pins s σ H _ _ v us Q I rx rs ⟨p, vs, i, j, yv, rfl, rfl, q1, by omega, by omega, by rw [q2.length]; exact hk, f1, ?_⟩
        exact k ρ _ _ (Ext.put R hp (fun _ _ z => by simp_all)) (R.put hp (fun _ _ z => by simp_all) fun H' e x => ⟨_, e, (DRs.ext R x _ _ q2).erase j⟩) (DR.ext R (Ext.put R hp (fun _ _ z => by simp_all)) _ _ f2)
variable {o e : Expr} {es : List Expr} {mo : Es → M D} {ma : Es → M (List D)} {name : Str} {apos cpos : Pos} {id : String} {g : D → List D → M D}
theorem mlm (slot : Slot "list" name id) (hty : typeOf (.builtin id) = pure (.type "method_descriptor")) (hm : MtR X id (rmM T X.K g)) (ho : PE X o (eM T X.K mo)) (ha : PA X (e :: es) (aM T X.K ma))
    (hbase : attributeBase o name X.env (eval o X.env) = eval o X.env := by rfl)
    (hfew : ((backTo cpos (starEach (e :: es) X.env)).all (fun x => !x.1) && (backToKw cpos (keywordEach [] X.env)).all (fun x => x.1.isSome)
      && decide ((e :: es).length + ([] : List Keyword).length + (if ([] : List Keyword).isEmpty then 0 else 1) < 30)) = true := by rfl)
    (hline : (apos.endLine == cpos.line) = true := by rfl) (hs : starEach (e :: es) X.env = (false, eval e X.env) :: starEach es X.env := by rfl) (hplain : (backTo cpos (starEach es X.env)).any (·.1) = false := by rfl) :
    PE X (.Call (.Attribute o name apos) (e :: es) [] cpos) (eM T X.K (lmD g mo ma)) :=
  PE.as (pe_bm PySem.F.plainAttrs_list slot hty hm ho ha hbase hfew hline hs hplain) fun σ H Q h => by
    obtain ⟨ρ, st, es, d, st', R, Er, hm, k⟩ := h
    obtain ⟨x, s1, h1, hm1⟩ := bind_some hm
    obtain ⟨u, s2, h2, hm2⟩ := bind_some hm1
    obtain ⟨xs, s3, h3, h4⟩ := bind_some hm2
    refine ⟨ρ, st, es, x, s1, R, Er, h1, fun ρ1 v1 H1 e1 R1 d1 => ?_⟩
    cases x with
    | ref n =>
      have h5 : (match s1[n]? with | some (.lst _) => some (true, s1) | _ => none) = some (u, s2) := h2
      split at h5
      · rename_i ds hn
        cases h5
        obtain ⟨p, vs, rfl, hp, q1, q2⟩ := R1.lst d1 hn
        refine ⟨.inl ⟨rfl, vs, SqL.of q1⟩, ρ1, _, es, xs, s3, R1, Er.ext R e1, h3, fun ρ2 ws H2 e2 R2 d2 => ⟨ρ2, s3, .ref n, xs, d, st', R2, DR.ext R1 e2 _ _ d1, d2, h4, fun ρ3 v3 H3 e3 R3 d3 => k ρ3 v3 H3 ((e1.trans e2).trans e3) R3 d3⟩⟩
      · cases h5
    | _ => cases h2
end
end Mx


/-! Mx10: defs by the store, and their calls; repr. -/
namespace Mx
open PySem PySem.Spec L2
variable {T : List (Addr × Str)}

/-! ### a def, by its body -/
def runB (n : Nat) (b : Es → M (Es × Fl)) (as : List D) : M D := do
  let p ← b (as.map some ++ List.replicate (n - as.length) none)
  match p.2 with
    | .rt d => pure d
    | .nx => pure .non
    | _ => fail
/-- np parameters, n names -/
def fnD (np n : Nat) (b : Es → M (Es × Fl)) (as : List D) : M D := fun st => if as.length = np then runB n b as st else none
/-- room, and no repr under way -/
structure Rm (k : Nat) (A : Around) : Prop where
  r : Room k A
  g : A.guards = some []
theorem Rm.mono {j k : Nat} {A : Around} (h : Rm k A) (l : j ≤ k) : Rm j A := ⟨h.r.mono l, h.g⟩
theorem Rm.deeper {k : Nat} {A : Around} (h : Rm (k + 1) A) (env : Env) : Rm k (A.deeper env) := ⟨h.r.deeper env, h.g⟩
/-- the promise of a def: it answers as g says -/
structure FnM (T : List (Addr × Str)) (P : Program) (w : World) (K : PySem.W.Frag) (mg : Str → Option Value) (base : Heap) (k : Nat) (f : Addr) (fd : FuncData) (ps : List Str) (g : List D → M D) : Prop where
  len : ∀ as st r, g as st = some r → as.length = ps.length
  go : ∀ (A : Around) (out : List Env) (s : Shared) (H : Hp) (args : Args) (us : List Value) (vs : List V) (Q : VK), Rm k A → Env0 P w K mg base A out s H → BindsTo s fd args (ps.zip us) → Vals vs us → rnM T K g vs H Q →
    codeAny (model P w) A (.call (.ref f) args) (CR CX0 out P w H s Q E0) s
section
variable {P : Program} {w : World} {K : PySem.W.Frag} {mg : Str → Option Value} {base : Heap} {k : Nat} {f : Addr} {fd : FuncData} {ps : List Str} {g : List D → M D}
theorem FnM.mono {j : Nat} (F : FnM T P w K mg base j f fd ps g) (h : j ≤ k) : FnM T P w K mg base k f fd ps g := ⟨F.len, fun A out s H args us vs Q r => F.go A out s H args us vs Q (r.mono h)⟩
theorem ER.start {ρ : List Addr} {H : Hp} {as : List D} {vs : List V} (n : Nat) (h : DRs K ρ H as vs) : ER K ρ H (as.map some ++ List.replicate (n - as.length) none) (vs.map some ++ List.replicate (n - vs.length) none) := by
  have hl := h.length
  refine ⟨by simp [hl], fun i d hi => ?_⟩
  by_cases hlt : i < as.length
  · rw [List.getElem?_append_left (by simpa using hlt), List.getElem?_map] at hi
    cases q : as[i]? with
    | none => rw [q] at hi; cases hi
    | some e =>
      rw [q] at hi
      have e' : e = d := Option.some.inj (Option.some.inj hi)
      subst e'
      obtain ⟨v, h1, h2⟩ := h.get q
      exact ⟨v, by rw [List.getElem?_append_left (by simpa [hl] using hlt), List.getElem?_map, h1]; rfl, h2⟩
  · rw [List.getElem?_append_right (by simpa using Nat.le_of_not_lt hlt), List.getElem?_replicate] at hi
    split at hi <;> cases hi
theorem runB_done {n : Nat} {b : Es → M (Es × Fl)} {as : List D} {st st' : S} {d : D} (h : runB n b as st = some (d, st')) : ∃ es f, b (as.map some ++ List.replicate (n - as.length) none) st = some ((es, f), st') ∧ (f = .rt d ∨ (f = .nx ∧ d = .non)) := by
  obtain ⟨⟨es, f⟩, s1, h1, h2⟩ := bind_some h
  cases f with
  | rt x => obtain ⟨rfl, rfl⟩ := pure_some h2; exact ⟨es, _, h1, .inl rfl⟩
  | nx => obtain ⟨rfl, rfl⟩ := pure_some h2; exact ⟨es, _, h1, .inr ⟨rfl, rfl⟩⟩
  | bk => cases h2
  | ct => cases h2
theorem fnD_some {np n : Nat} {b : Es → M (Es × Fl)} {as : List D} {st st' : S} {d : D} (h : fnD np n b as st = some (d, st')) : as.length = np ∧ runB n b as st = some (d, st') := by
  unfold fnD at h
  split at h
  · exact ⟨by assumption, h⟩
  · cases h
theorem FnM.ofC {x qual : Str} {st : Stmt} {N : List Str} {b : Es → M (Es × Fl)} {oc kV doc pm cdv ct : Value} {od an : Option Addr} {osl : Array (Option Value)} (lk : K.lookup f = some ⟨oc, od, .func (PySem.W.fnOf x qual (defArgs st) (defBody st) (defScope st) .none kV doc pm an cdv ct), osl⟩)
    (hcd : PySem.W.codeIn K cdv qual = true) (S : FnScope N ps (defScope st)) (hb : ∀ (A : Around) (out : List Env) (s : Shared) (H : Hp), Rm k (A.deeper (PyProof.Rows.envOfC qual (defScope st) s.heap.objs.size f cdv)) → PSs (cxOf CX0 P w K mg base N qual (defScope st) f cdv A out s H E0).nox (defBody st) (sM T K b)) :
    FnM T P w K mg base (k + 1) f (PySem.W.fnOf x qual (defArgs st) (defBody st) (defScope st) .none kV doc pm an cdv ct) ps (fnD ps.length N.length b) := by
  refine ⟨fun as st r h => (fnD_some (d := r.1) (st' := r.2) h).1, fun A out s H args us vs Q hr e0 bd rv h => ?_⟩
  obtain ⟨ρ, st0, as, d, st', R, ha, hg, kQ⟩ := h
  obtain ⟨hal, hrun⟩ := fnD_some hg
  have hvl : vs.length = ps.length := by rw [ha.length, hal]
  have KX : K.In s.heap := e0.mod.kin.keeps fun b o e => (e0.bs b o e).1
  have lim : s.heap.NoLimit := e0.mod.nolimit.keeps fun b o e => (e0.bs b o e).1
  have hkind : ∀ y ∈ ps.zip us, (defScope st).names.lookup y.1 = some .local ∨ ((defScope st).names.lookup y.1 = some .cell ∧ ((cellsFrom (s.heap.objs.size + 1) (defScope st).names []).lookup y.1).isSome = true) := by
    intro y hy
    rcases S.par y.1 (List.of_mem_zip (show (y.1, y.2) ∈ ps.zip us from hy)).1 with q | q
    · exact .inl q
    · exact .inr ⟨q, PySem.W.cellsFrom_some _ _ _ (.inl q)⟩
  refine codeAny_call_function hr.r.depth (KX _ _ lk) rfl S.co S.gen rfl (PySem.W.codeRec_of KX hcd) (bd _ _ _ _ (wpAny_newFunctionEnv_cells S.kind hkind fun env he s1 y => ?_))
  subst he
  refine ⟨lim.keeps y.toInCall.keep, codeAny_func ?_⟩
  have I : L2.Inv (cxOf CX0 P w K mg base N qual (defScope st) f cdv A out s H E0) [] (start N vs) H s1 := inv_start S hr.r.hd e0 hvl rv y
  have body := (hb A out s H (hr.deeper _)).nox
  have hq : sM T K b { nx := fun _ H' => Q .non H', rt := Q } (start N vs) H := by
    obtain ⟨es, fl, h1, h2⟩ := runB_done hrun
    refine ⟨ρ, st0, _, es, fl, st', R, ER.start N.length ha, h1, ?_⟩
    rcases h2 with rfl | ⟨rfl, rfl⟩
    · exact kQ
    · exact fun ρ' σ' H' e R' _ => kQ ρ' .non H' e R' (by rw [DR])
  refine wpAny_mono (body.run [] s1 (start N vs) H _ I hq) (fun fl s' hs => ?_) fun e s' hs => hs
  cases fl with
  | ret u =>
    obtain ⟨v, σ', H', J, r1, q⟩ := hs
    exact ⟨v, H', J.os, J.bare, J.base, J.hok, r1, q⟩
  | next =>
    obtain ⟨σ', H', J, q⟩ := hs
    exact ⟨V.non, H', J.os, J.bare, J.base, J.hok, rfl, q⟩
  | brk => exact hs.elim fun _ z => z.elim fun _ z => z.2.elim
  | cont => exact hs.elim fun _ z => z.elim fun _ z => z.2.elim
theorem FnM.of {x qual : Str} {st : Stmt} {N : List Str} {b : Es → M (Es × Fl)} (F : Fun K x qual st f fd) (S : FnScope N ps (defScope st))
    (hb : ∀ (cdv : Value) (A : Around) (out : List Env) (s : Shared) (H : Hp), Rm k (A.deeper (PyProof.Rows.envOfC qual (defScope st) s.heap.objs.size f cdv)) → PSs (cxOf CX0 P w K mg base N qual (defScope st) f cdv A out s H E0).nox (defBody st) (sM T K b)) :
    FnM T P w K mg base (k + 1) f fd ps (fnD ps.length N.length b) := by
  obtain ⟨oc, od, kV, doc, pm, an, cdv, ct, osl, e, lk, hcd⟩ := F.ex
  subst e
  exact FnM.ofC lk hcd S (hb cdv)
end

/-! ### calls -/
section
variable {X : Cx} {k : Nat} {f : Addr} {fd : FuncData} {ps : List Str} {g : List D → M D} {pos p : Pos} {x : Str} {e : Expr} {es : List Expr} {ma : Es → M (List D)}
theorem FnM.run {pins : List (Addr × Obj)} {σ : St} {H : Hp} {s : Shared} {Q : VK} {args : Args} {us : List Value} {vs : List V} (F : FnM T X.prog X.w X.K X.mg X.base k f fd ps g) (hr : Rm k X.A) (I : L2.Inv X pins σ H s) (hb : BindsTo s fd args (ps.zip us)) (r : Vals vs us) (h : rnM T X.K g vs H Q) :
    codeAny (model X.prog X.w) X.A (.call (.ref f) args) (fun r s' => match r with
      | .ok (.ret u) => EP X pins σ Q u s'
      | .ok _ => False
      | .error e => X.xe e s') s :=
  codeAny_mono (F.go X.A X.stack s H args us vs Q hr I.env0 hb r h) fun r s' hq => by
    cases r with
    | error e => exact hq.elim
    | ok fl => cases fl with
      | ret u => exact I.after hq
      | _ => exact hq.elim
theorem FnM.ask {pins : List (Addr × Obj)} {σ : St} {H : Hp} {s : Shared} {Q : VK} {us ws : List Value} {kw : List (Str × Value)} {vs : List V} (F : FnM T X.prog X.w X.K X.mg X.base k f fd ps g) (hr : Rm k X.A) (I : L2.Inv X pins σ H s) (hb : BindsTo s fd ⟨us, kw⟩ (ps.zip ws)) (r : Vals vs ws) (h : rnM T X.K g vs H Q) :
    wpAny (model X.prog X.w) X.A (call (.ref f) us kw) (EP X pins σ Q) X.xe s :=
  wpAny_call (codeAny_mono (F.run hr I hb r h) fun r s' hq => by
    cases r with
    | error e => exact hq
    | ok fl => cases fl with
      | ret u => exact hq
      | _ => exact hq.elim)
theorem fcall (F : FnM T X.prog X.w X.K X.mg X.base k f fd ps g) (hr : Rm k X.A) (hg : Gl X x) (hm : X.mg x = some (.ref f)) (hk : PySem.W.keepIn X.K (.ref f) = true) (hb : Binds X.K fd ps [])
    (ha : PA X (e :: es) (aM T X.K ma)) (hdb : (x == ("__debug__" : Str)) = false := by decide) (he : starEach (e :: es) X.env = (false, eval e X.env) :: starEach es X.env := by rfl) (hpl : (backTo pos (starEach es X.env)).any (·.1) = false := by rfl) :
    PE X (.Call (.Name x p) (e :: es) [] pos) (eM T X.K (callD g ma)) := by
  refine ⟨fun pins s σ H Q I h => wpAny_Call_Name_kw (ld_glob I hg hm (PySem.W.callWith_K (h₀ := X.base) I.ok.mod.kin hk (thn (ha.run pos pins s σ H _ I (call_of (fun _ _ _ q => q) h)) fun us s1 ⟨vs, H1, I1, r, q⟩ => ⟨I1.kIn, ?_⟩) he hpl) hdb)⟩
  have hl : (us ++ []).length = ps.length := by
    obtain ⟨ρ, st, as, d, st', R, h1, h2, _⟩ := q
    rw [List.append_nil, ← r.length, h1.length]
    exact F.len as st _ h2
  have bd := hb s1 us I1.kIn hl
  rw [List.append_nil] at bd
  exact F.ask hr I1 bd r q
theorem fcall0 (F : FnM T X.prog X.w X.K X.mg X.base k f fd ps g) (hr : Rm k X.A) (hg : Gl X x) (hm : X.mg x = some (.ref f)) (hk : PySem.W.keepIn X.K (.ref f) = true) (hb : Binds X.K fd ps [])
    (hdb : (x == ("__debug__" : Str)) = false := by decide) : PE X (.Call (.Name x p) [] [] pos) (eM T X.K (callD g nilA)) := by
  refine ⟨fun pins s σ H Q I h => wpAny_Call_Name_kw (ld_glob I hg hm (PySem.W.callWith_K0 I.kIn hk ?_) hdb)⟩
  have q : rnM T X.K g [] H Q := nilA_of (call_of (fun _ _ _ q => q) h)
  have hl : (([] : List Value) ++ []).length = ps.length := by
    obtain ⟨ρ, st, as, d, st', R, h1, h2, _⟩ := q
    have := F.len as st _ h2
    rw [← this, ← h1.length]; rfl
  have bd := hb s [] I.kIn hl
  exact F.ask hr I bd .nil q
end

/-! ### calls by keywords alone -/
/-- the values in the parameters' order -/
structure Ord (w : {α : Type} → List α → List α) : Prop where
  vals : ∀ {vs : List V} {us : List Value}, Vals vs us → Vals (w vs) (w us)
  drs : ∀ {K : PySem.W.Frag} {ρ : List Addr} {H : Hp} {ds : List D} {vs : List V}, DRs K ρ H ds vs → DRs K ρ H (w ds) (w vs)
  len : ∀ {α : Type} (l : List α), (w l).length = l.length
def sameO {α : Type} (l : List α) : List α := l
def swapO {α : Type} : List α → List α
  | [a, b] => [b, a]
  | l => l
theorem ord_same : Ord (fun {α} => sameO (α := α)) := ⟨fun h => h, fun h => h, fun _ => rfl⟩
theorem ord_swap : Ord (fun {α} => swapO (α := α)) := by
  refine ⟨fun {vs us} h => ?_, fun {K ρ H ds vs} h => ?_, fun {α} l => ?_⟩
  · cases h with
    | nil => exact .nil
    | cons a r => cases r with
      | nil => exact .cons a .nil
      | cons b r => cases r with
        | nil => exact .cons b (.cons a .nil)
        | cons c r => exact .cons a (.cons b (.cons c r))
  · match ds, h with
    | [], h => rw [DRs] at h; subst h; exact DRs.nil
    | [a], h => obtain ⟨v, rfl, q⟩ := h.one; exact DRs.cons q DRs.nil
    | [a, b], h => obtain ⟨v, w, rfl, q, r⟩ := h.two; exact DRs.cons r (DRs.cons q DRs.nil)
    | a :: b :: c :: ds, h =>
      have hl := h.length
      match vs, hl with
      | v :: w :: x :: vs, _ => exact h
      | [], hl => simp at hl
      | [_], hl => simp at hl
      | [_, _], hl => simp at hl
  · match l with
    | [] => rfl
    | [_] => rfl
    | [_, _] => rfl
    | _ :: _ :: _ :: _ => rfl
/-- how a call by keywords alone binds -/
def KwB (K : PySem.W.Frag) (fd : FuncData) (ps ks : List Str) (w : {α : Type} → List α → List α) : Prop := ∀ (s : Shared) (us : List Value), us.length = ps.length → BindsTo s fd ⟨[], ks.zip us⟩ (ps.zip (w us))
section
variable {X : Cx} {k : Nat} {f : Addr} {fd : FuncData} {ps ks : List Str} {g : List D → M D} {pos p : Pos} {x : Str} {kws : List Keyword} {ma : Es → M (List D)} {w : {α : Type} → List α → List α}
theorem fcallKw (F : FnM T X.prog X.w X.K X.mg X.base k f fd ps g) (hr : Rm k X.A) (hg : Gl X x) (hm : X.mg x = some (.ref f)) (hk : PySem.W.keepIn X.K (.ref f) = true) (hb : KwB X.K fd ps ks w) (o : Ord w)
    (ha : PK X kws (aM T X.K ma)) (hdb : (x == ("__debug__" : Str)) = false := by decide) (hall : (backToKw pos (keywordEach kws X.env)).all (·.1.isSome) = true := by rfl) (hks : (backToKw pos (keywordEach kws X.env)).filterMap (·.1) = ks := by rfl)
    (hpl : ((backTo pos (starEach [] X.env)).any (·.1) || (backToKw pos (keywordEach kws X.env)).any (·.1.isNone)) = false := by rfl) :
    PE X (.Call (.Name x p) [] kws pos) (eM T X.K (callKD g w ma)) := by
  refine ⟨fun pins s σ H Q I h => wpAny_Call_Name_kw (ld_glob I hg hm ?_ hdb)⟩
  refine PySem.W.callWith_KW0 (h₀ := X.base) I.ok.mod.kin hk hall ?_ hpl
  have h' : aM T X.K ma σ H fun vs H1 => rnM T X.K g (w vs) H1 Q := by
    obtain ⟨ρ, st, es, d, st', R, Er, hm, kk⟩ := h
    obtain ⟨xs, s1, h1, h3⟩ := bind_some hm
    exact ⟨ρ, st, es, xs, s1, R, Er, h1, fun ρ1 v1 H1 e1 R1 d1 => ⟨ρ1, s1, w xs, d, st', R1, o.drs d1, h3, fun ρ3 v3 H3 e3 R3 d3 => kk ρ3 v3 H3 (e1.trans e3) R3 d3⟩⟩
  refine thn (ha.run pos pins s σ H _ I h') fun us s1 ⟨vs, H1, I1, r, q⟩ => ⟨I1.kIn, ?_⟩
  rw [hks]
  have hl : us.length = ps.length := by
    obtain ⟨ρ, st, as, d, st', R, h1, h2, _⟩ := q
    have e := F.len as st _ h2
    rw [← r.length, ← o.len vs, h1.length, e]
  exact F.ask hr I1 (hb s1 us hl) (o.vals r) q
end

/-! ### repr -/
def reprD (x : D) : M D := fun st => match toPy st 64 x with
  | some p => if p.showable && decide (p.shown.length ≤ sizeLine) then some (.str p.shown, st) else none
  | none => none
section
variable {X : Cx}
theorem call_reprM (hg : X.A.guards = some []) (hu : X.A.units + 70 < cLine) : CallR X (.builtin "repr") (rnM T X.K (on1 reprD)) := by
  intro pins s σ H xs us Q I rs ⟨ρ, st, as, d, st', R, ha, hm, k⟩
  obtain ⟨x, rfl, hm1⟩ := on1_some hm
  obtain ⟨v, rfl, h1⟩ := ha.one
  unfold reprD at hm1
  split at hm1
  · rename_i p hp
    split at hm1
    · rename_i hz
      cases hm1
      rw [Bool.and_eq_true, decide_eq_true_eq] at hz
      have P := toPy_ok R 64 x v p h1 hp
      have q : Q (.str p.shown) H := k.now R (by rw [DR])
      cases rs with
      | cons r1 rr =>
        cases rr
        rename_i u
        have fin : ∀ (t : Tok) (tk : Nat), EP X pins σ Q (.str p.shown t) { s with toks := tk } := fun t tk => ⟨.str p.shown, H, I.tok tk, ⟨t, rfl⟩, q⟩
        obtain ⟨rd, hrd⟩ := P.dp.reads I p v u r1
        have hdepth := P.deep
        cases u with
        | ref a =>
          refine repr_of_reads' hrd hz.1 (PyData.noDict_hsm (PyData.hasDict_of_canLay p P.lay)) hg (by omega) (fun _ _ q => q) (fun h' t tk hk => ?_) hz.2
          exact ⟨.str p.shown, H, I.kept (t' := tk) hk, ⟨t, rfl⟩, q⟩
        | none => cases hrd; exact PySem.P.repr_of_none (fin _ _)
        | bool b => cases hrd; exact PySem.P.repr_of_bool (fin _ _)
        | int i t => cases hrd; exact PySem.P.repr_of_int (of_decide_eq_true hz.1) (fin _ _)
        | str x t => cases hrd; exact PySem.P.repr_of_str (fin _ _) hz.2
        | _ => cases hrd
    · cases hm1
  · cases hm1
end
end Mx


/-! Mx11: op=, dict displays, sorted(set(..)). -/
namespace Mx
open PySem PySem.Spec L2
variable {T : List (Addr × Str)}

/-! ### name op= e -/
section
variable {prog : Program} {w : World} {A : Around} {E : Value → Shared → Prop} {s : Shared}
theorem noI_tuple : typeLookup (.type "tuple") (dunderI "add") = pure none := by rw [typeLookup_type, builtinLookup_eq_fast]; kernel_rfl
/-- t += u is t + u, for tuples -/
theorem ipl_tup {a b : Value} {Q : Value → Shared → Prop} (ha : s.TypeIs a "tuple") (hb : s.TypeIs b "tuple") (h : wpAny (model prog w) A (call (.builtin "tuple.__add__") [a, b]) Q E s) : wpAny (model prog w) A (inplaceOp .Add a b) Q E s :=
  wpAny_inplaceOp_concat ha hb noI_tuple noFill_tuple_add seq_tuple_add h
theorem ipl_cat {t b : Addr} {vs ws : List Value} {Q : Value → Shared → Prop} (ht : PyProof.Rows.IsTup s.heap t vs.toArray) (hb : PyProof.Rows.IsTup s.heap b ws.toArray)
    (h0 : vs = [] → Q (.ref b) s) (h1 : vs ≠ [] → ws = [] → Q (.ref t) s) (h2 : vs ≠ [] → ws ≠ [] → Q (.ref s.heap.objs.size) { s with heap := s.heap.push { cls := .type "tuple", data := .seq (vs ++ ws).toArray } })
    (hz : vs.length + ws.length ≤ sizeLine) : wpAny (model prog w) A (inplaceOp .Add (.ref t) (.ref b)) Q E s := by
  obtain ⟨⟨oc, od, odat, osl⟩, o1, c1, n1, d1⟩ := id ht
  obtain ⟨⟨pc, pd, pdat, psl⟩, o2, c2, n2, d2⟩ := id hb
  dsimp only at c1 d1 c2 d2
  subst c1 d1 c2 d2
  refine ipl_tup ⟨_, o1, rfl⟩ ⟨_, o2, rfl⟩ ?_
  by_cases hv : vs = []
  · exact call_meets PySem.F.slot_tuple_add ⟨_, o1, rfl⟩ PySem.F.entry_tuple_add (PySem.F.args_tuple_add_2 _ _) (PyProof.Rows.tuple_addW0 t b vs.toArray ws.toArray n1 n2 od pd osl psl (by simp [hv])) ⟨o1, o2, h0 hv⟩
  · by_cases hw : ws = []
    · exact call_meets PySem.F.slot_tuple_add ⟨_, o1, rfl⟩ PySem.F.entry_tuple_add (PySem.F.args_tuple_add_2 _ _) (PyProof.Rows.tuple_addW1 t b vs.toArray ws.toArray n1 n2 od pd osl psl (by simpa using hv) (by simp [hw])) ⟨o1, o2, h1 hv hw⟩
    · refine call_meets PySem.F.slot_tuple_add ⟨_, o1, rfl⟩ PySem.F.entry_tuple_add (PySem.F.args_tuple_add_2 _ _) (PyProof.Rows.tuple_addW2 t b vs.toArray ws.toArray n1 n2 od pd osl psl (by simpa using hv) (by simpa using hw) (by rw [List.size_toArray, List.size_toArray]; exact hz)) ⟨o1, o2, ?_⟩
      rw [show vs.toArray ++ ws.toArray = (vs ++ ws).toArray by simp]
      exact h2 hv hw
end
section
variable {X : Cx}
theorem iop_tupA : OpR X (inplaceOp .Add) (rCatA X.K) := by
  intro pins s σ H x y v u Q I rx ry ⟨a, b, xs, ys, e1, e2, ha, hb, hz, q0, q1, q2⟩
  subst e1 e2
  cases rx
  cases ry
  obtain ⟨its, r1, p1, _⟩ := I.tuple ha
  obtain ⟨its2, r2, p2, _⟩ := I.tuple hb
  have n1 := r1.nil_iff
  have n2 := r2.nil_iff
  refine ipl_cat p1 p2 (fun z => ⟨.ref b, H, I, rfl, q0 (n1.mp z)⟩) (fun z y => ⟨.ref a, H, I, rfl, q1 (fun c => z (n1.mpr c)) (n2.mp y)⟩) (fun z y => ?_) (by rw [← r1.length, ← r2.length]; exact hz)
  exact ⟨.ref s.heap.objs.size, _, I.laid (t' := s.toks) (o := .tup (xs ++ ys)) (fun b ob q => Heap.get?_push_of_some _ q) (Nat.le_refl _) ⟨by rw [List.length_append]; exact hz, _, r1.append r2, PyProof.Rows.IsTup.new _ _⟩, rfl, q2 (fun c => z (n1.mpr c)) (fun c => y (n2.mpr c)) _ (I.hok.fresh (Nat.le_refl _))⟩
def iaddD : D → D → M D
  | .int i, .int j => pure (.int (i + j))
  | .str x, .str y => do
    guardM (decide (x.length + y.length ≤ sizeLine))
    pure (.str (x ++ y))
  | .tup xs, .tup ys => do
    guardM (decide (xs.length + ys.length ≤ sizeLine))
    pure (.tup (xs ++ ys))
  | .ref n, .ref m => do
    let xs ← lstAt n
    let ys ← lstAt m
    guardM (decide (xs.length + ys.length ≤ sizeLine))
    putAt n (.lst (xs ++ ys))
    pure (.ref n)
  | _, _ => fail
theorem iop_addM : OpR X (inplaceOp .Add) (r2M T X.K iaddD) := by
  intro pins s σ H x y v u Q I rx ry ⟨ρ, st, a, b, d, st', R, ha, hb, hg, k⟩
  unfold iaddD at hg
  split at hg
  · obtain ⟨rfl, rfl⟩ := pure_some hg
    exact iop_add pins s σ H x y v u Q I rx ry ⟨_, _, ha.int, hb.int, k.now R (by rw [DR])⟩
  · obtain ⟨hz, hg⟩ := guarded hg
    obtain ⟨rfl, rfl⟩ := pure_some hg
    exact iop_add_str pins s σ H x y v u Q I rx ry ⟨_, _, ha.str, hb.str, of_decide_eq_true hz, k.now R (by rw [DR])⟩
  · obtain ⟨hz, hg⟩ := guarded hg
    obtain ⟨rfl, rfl⟩ := pure_some hg
    exact add_tup iop_tupA I rx ry R ha hb (of_decide_eq_true hz) k
  · obtain ⟨xs, s1, h1, hg1⟩ := bind_some hg
    obtain ⟨e1, rfl⟩ := lstAt_some h1
    obtain ⟨ys, s2, h2, hg2⟩ := bind_some hg1
    obtain ⟨e2, rfl⟩ := lstAt_some h2
    obtain ⟨hz, hg3⟩ := guarded hg2
    obtain ⟨a, vs, rfl, hp, q1, q2⟩ := R.lst ha e1
    obtain ⟨b, ws, rfl, _, q3, q4⟩ := R.lst hb e2
    cases hg3
    have hz' := of_decide_eq_true hz
    refine iop_ext pins s σ H _ _ v u Q I rx ry ⟨a, b, vs, ws, rfl, rfl, q1, q3, by rw [q2.length, q4.length]; exact hz', ?_⟩
    exact k ρ _ _ (Ext.put R hp (fun _ _ z => by simp_all)) (R.put hp (fun _ _ z => by simp_all) fun H' e x => ⟨_, e, (DRs.ext R x _ _ q2).append (DRs.ext R x _ _ q4)⟩) (DR.ext R (Ext.put R hp (fun _ _ z => by simp_all)) _ _ ha)
  · cases hg
def augS (i : Nat) (me : Es → M D) (g : D → D → M D) : Es → M (Es × Fl) := fun es => do
  let x ← varD i es
  let y ← me es
  let z ← g x y
  pure (es.set i (some z), .nx)
theorem saug (i : Nat) {x : Str} {e : Expr} {me : Es → M D} {op : Operator} {pos pos' : Pos} {g : D → D → M D} (ho : OpR X (inplaceOp op) (r2M T X.K g)) (hN : X.N.Nodup) (he : PE X e (eM T X.K me)) (hi : X.N[i]? = some x := by rfl) (hx : Loc X.env.scope x := by first | exact Or.inl rfl | exact Or.inr rfl)
    (hf : X.fn x = true ∨ X.env.scope.names.lookup x = some .local := by first | exact .inl rfl | exact .inr rfl) : PS X (.AugAssign (.Name x pos') op e pos) (sM T X.K (augS i me g)) :=
  PS.as (ps_aug (ti := r2M T X.K g) hN hi hx he (fun pins s σ H x y v u Q I rx ry h => ho pins s σ H x y v u Q I rx ry h) hf) fun E σ H h => by
    obtain ⟨ρ, st, es, es', f, st', R, Er, hm, k⟩ := h
    obtain ⟨a, s1, h1, hm1⟩ := bind_some hm
    obtain ⟨h1', rfl⟩ := varD_some h1
    obtain ⟨b, s2, h2, hm2⟩ := bind_some hm1
    obtain ⟨c, s3, h3, h4⟩ := bind_some hm2
    obtain ⟨rfl, rfl, rfl⟩ := pair_some h4
    obtain ⟨v, hv, dv⟩ := Er.2 i a h1'
    exact ⟨v, hv, ρ, _, es, b, s2, R, Er, h2, fun ρ1 v1 H1 e1 R1 d1 => ⟨ρ1, s2, a, b, c, _, R1, DR.ext R e1 _ _ dv, d1, h3, fun ρ3 v3 H3 e3 R3 d3 => k ρ3 _ H3 (e1.trans e3) R3 ((Er.ext R (e1.trans e3)).set d3)⟩⟩
end

/-! ### sorted(set(t)) of ints -/
def insU (k : Int) : List Int → List Int
  | [] => [k]
  | x :: r => if k < x then k :: x :: r else if k = x then x :: r else x :: insU k r
def uniqI : List Int → List Int
  | [] => []
  | k :: r => insU k (uniqI r)
theorem mem_insU {k j : Int} : ∀ {l : List Int}, j ∈ insU k l ↔ j = k ∨ j ∈ l
  | [] => by simp [insU]
  | x :: r => by
    unfold insU
    by_cases h : k < x
    · rw [if_pos h]; simp
    · rw [if_neg h]
      by_cases h2 : k = x
      · rw [if_pos h2]; subst h2; simp
      · rw [if_neg h2, List.mem_cons, mem_insU, List.mem_cons]
        constructor
        · rintro (h | h | h)
          · exact .inr (.inl h)
          · exact .inl h
          · exact .inr (.inr h)
        · rintro (h | h | h)
          · exact .inr (.inl h)
          · exact .inl h
          · exact .inr (.inr h)
theorem insU_sorted {k : Int} : ∀ {l : List Int}, l.Pairwise (· < ·) → (insU k l).Pairwise (· < ·)
  | [], _ => by simp [insU]
  | x :: r, h => by
    obtain ⟨h1, h2⟩ := List.pairwise_cons.mp h
    unfold insU
    by_cases hk : k < x
    · rw [if_pos hk]
      refine List.pairwise_cons.mpr ⟨fun y hy => ?_, h⟩
      rcases List.mem_cons.mp hy with e | e
      · rw [e]; exact hk
      · exact Int.lt_trans hk (h1 y e)
    · rw [if_neg hk]
      by_cases h3 : k = x
      · rw [if_pos h3]; exact h
      · rw [if_neg h3]
        refine List.pairwise_cons.mpr ⟨fun y hy => ?_, insU_sorted h2⟩
        rcases mem_insU.mp hy with e | e
        · rw [e]; omega
        · exact h1 y e
theorem mem_uniqI {j : Int} : ∀ {l : List Int}, j ∈ uniqI l ↔ j ∈ l
  | [] => by simp [uniqI]
  | k :: r => by rw [uniqI, mem_insU, mem_uniqI, List.mem_cons]
theorem uniqI_sorted : ∀ l : List Int, (uniqI l).Pairwise (· < ·)
  | [] => .nil
  | k :: r => insU_sorted (uniqI_sorted r)
theorem sorted_same : ∀ {l m : List Int}, l.Pairwise (· < ·) → m.Pairwise (· < ·) → (∀ k, k ∈ l ↔ k ∈ m) → l = m
  | [], [], _, _, _ => rfl
  | [], y :: m, _, _, h => by have := (h y).mpr (List.mem_cons_self ..); simp at this
  | x :: l, [], _, _, h => by have := (h x).mp (List.mem_cons_self ..); simp at this
  | x :: l, y :: m, hl, hm, h => by
    obtain ⟨l1, l2⟩ := List.pairwise_cons.mp hl
    obtain ⟨m1, m2⟩ := List.pairwise_cons.mp hm
    have e : x = y := by
      rcases List.mem_cons.mp ((h x).mp (List.mem_cons_self ..)) with e | e
      · exact e
      · rcases List.mem_cons.mp ((h y).mpr (List.mem_cons_self ..)) with e2 | e2
        · exact e2.symm
        · have a := m1 x e
          have b := l1 y e2
          omega
    subst e
    have e2 : l = m := sorted_same l2 m2 fun k => by
      constructor
      · intro hk
        rcases List.mem_cons.mp ((h k).mp (List.mem_cons_of_mem _ hk)) with e | e
        · have := l1 k hk; omega
        · exact e
      · intro hk
        rcases List.mem_cons.mp ((h k).mpr (List.mem_cons_of_mem _ hk)) with e | e
        · have := m1 k hk; omega
        · exact e
    rw [e2]
def rSetTup (K : PySem.W.Frag) (w : World) : List V → Hp → VK → Prop := fun xs H Q => ∃ (p : Addr) (ns : List Int), xs = [.ref p] ∧ SqT K H p (ns.map V.int) ∧ ns.length < 64 ∧ ∀ (a : Addr) (c : Nat), H a = none → c ≤ ns.length → Q (.ref a) (upd H a (SetO w a (fun j => decide (j ∈ ns)) c))
def ssetD (me : Es → M D) : Es → M D := fun es => do
  let x ← me es
  match x with
    | .tup ds => match intsOf ds with
      | some ns => do
        guardM (decide (ns.length < 64))
        new (.lst ((uniqI ns).map .int))
      | none => fail
    | _ => fail
theorem drs_ints {K : PySem.W.Frag} {ρ : List Addr} {H : Hp} : ∀ ns : List Int, DRs K ρ H (ns.map D.int) (ns.map V.int)
  | [] => DRs.nil
  | n :: r => DRs.cons (by rw [DR]) (drs_ints r)
section
variable {X : Cx}
theorem cr_setTup (hc : X.calm = true) : CallR X (.type "set") (rSetTup X.K X.w) := by
  intro pins s σ H xs us Q I rs ⟨p, ns, e, hq, hl, k⟩
  subst e
  cases rs with
  | cons r rr =>
    cases rr
    cases r
    obtain ⟨its, rv, pt, hz⟩ := I.tuple hq
    refine call_set_tupI ns (I.ok.hd hc) (show s.heap.IsTuple p its.toArray from pt) (ints_of_vals rv) (Nat.lt_of_le_of_lt (Nat.succ_le_of_lt hl) (by decide)) fun h' tk c R1 hcn kp => ?_
    exact ⟨.ref s.heap.objs.size, _, I.laid (t' := tk) kp (Nat.le_refl _) (setO_new R1), rfl, k _ c (I.hok.fresh (Nat.le_refl _)) hcn⟩
theorem mset {a : Expr} {me : Es → M D} {p pos p2 pos2 : Pos} (hc : X.calm = true) (ha : PE X a (eM T X.K me)) (hg : Gl X "sorted" := by rfl) (hm : X.mg "sorted" = none) (hg2 : Gl X "set" := by rfl) (hm2 : X.mg "set" = none)
    (na : starEach [a] X.env = (false, eval a X.env) :: starEach [] X.env := by rfl) (nb : starEach [.Call (.Name "set" p2) [a] [] pos2] X.env = (false, eval (.Call (.Name "set" p2) [a] [] pos2) X.env) :: starEach [] X.env := by rfl) :
    PE X (.Call (.Name "sorted" p) [.Call (.Name "set" p2) [a] [] pos2] [] pos) (eM T X.K (ssetD me)) :=
  PE.as (pe_callB (cr_sortedSet hc) hg hm PyProof.Rows.boot_sorted (pa_cons (pe_callTy (cr_setTup hc) hg2 hm2 PyProof.Rows.boot_set (pa_cons ha pa_nil na) (he := na)) pa_nil nb) (he := nb)) fun σ H Q h => by
    obtain ⟨ρ, st, es, d, st', R, Er, hm, k⟩ := h
    obtain ⟨x, s1, h1, h2⟩ := bind_some hm
    refine ⟨ρ, st, es, x, s1, R, Er, h1, fun ρ1 v1 H1 e1 R1 d1 => ?_⟩
    cases x with
    | tup ds =>
      cases hi : intsOf ds with
      | none => simp only [hi] at h2; cases h2
      | some ns =>
        simp only [hi] at h2
        obtain ⟨hz, h3⟩ := guarded h2
        cases h3
        obtain ⟨a, vs, rfl, q1, q2⟩ := d1.tup
        rw [intsOf_some q2 hi] at q1
        have hz' := of_decide_eq_true hz
        refine ⟨a, ns, rfl, q1, hz', fun b c hb hc => ⟨b, _, c, rfl, upd_same, Nat.lt_of_le_of_lt hc hz', fun ns' p hs hmem _ hp => ?_⟩⟩
        have e : ns' = uniqI ns := sorted_same hs (uniqI_sorted ns) fun j => by rw [hmem j, mem_uniqI, decide_eq_true_eq]
        subst e
        have R2 := R1.any (u := SetO X.w b (fun j => decide (j ∈ ns)) c) hb
        have E2 : Ext ρ1 H1 ρ1 _ := Ext.fresh (u := SetO X.w b (fun j => decide (j ∈ ns)) c) hb
        exact Post.lst R2 (fun ρ3 v3 H3 e3 R3 d3 => k ρ3 v3 H3 ((e1.trans E2).trans e3) R3 d3) (drs_ints _) p hp
    | _ => cases h2
end
end Mx


/-! Mx12: dict displays. -/
namespace Mx
open PySem PySem.Spec L2
variable {T : List (Addr × Str)}

section
variable {K : PySem.W.Frag} {ρ : List Addr} {H : Hp} {st : S} {p : Addr}
theorem Mv.off {u u' : HO} (h : H p = some u) (z : StO u) (nf : ∀ ob v, u ≠ .frz ob v) : Mv ρ H ρ (upd H p u') :=
  ⟨List.prefix_refl _, fun a xs q => by rw [upd_ne (ne_of q h fun y => by subst y; rcases z with ⟨_, z⟩ | ⟨_, z⟩ | ⟨_, z⟩ | ⟨_, _, z⟩ <;> cases z)]; exact q, fun a ob v q _ => by rw [upd_ne (ne_of q h fun y => nf _ _ y.symm)]; exact q⟩
/-- a thing beside the store is written and joins the store -/
theorem Rel.close (R : Rel T K ρ H st) {u u' : HO} {o : O} (h : H p = some u) (z : StO u) (nf : ∀ ob v, u ≠ .frz ob v) (hp : p ∉ ρ) (ho : OR K (ρ ++ [p]) (upd H p u') p o) : Rel T K (ρ ++ [p]) (upd H p u') (st ++ [o]) := by
  refine ⟨Tabs.put R.tab h z, by rw [List.length_append, List.length_append, R.len]; rfl, ?_, fun i a x hi hx => ?_⟩
  · rw [List.nodup_append]
    refine ⟨R.nd, by simp, fun a ha b hb e => ?_⟩
    have : b = p := by simpa using hb
    subst this; subst e; exact hp ha
  · by_cases hl : i < ρ.length
    · rw [List.getElem?_append_left hl] at hi
      rw [List.getElem?_append_left (by rw [← R.len]; exact hl)] at hx
      have q := R.obj i a x hi hx
      have na : a ≠ p := fun y => hp (y ▸ List.mem_of_getElem? hi)
      exact ((q.mv (Mv.off (ρ := ρ) (u' := u') h z nf) (upd_ne na)).mv (Mv.more (p := p)) rfl)
    · have hle : ρ.length ≤ i := Nat.le_of_not_lt hl
      rw [List.getElem?_append_right hle] at hi
      rw [List.getElem?_append_right (by rw [← R.len]; exact hle)] at hx
      have hi0 : i - ρ.length = 0 := by
        have := (List.getElem?_eq_some_iff.mp hi).1
        simp at this; omega
      have hx0 : i - st.length = 0 := by rw [← R.len]; exact hi0
      rw [hi0] at hi
      rw [hx0] at hx
      simp at hi hx
      subst hi; subst hx
      exact ho
end
def pairsD : List ((Es → M D) × (Es → M D)) → Es → M (List (Key × D))
  | [], _ => pure []
  | p :: r, es => do
    let x ← p.1 es
    let y ← p.2 es
    match keyD x with
      | some k => do
        let rest ← pairsD r es
        pure ((k, y) :: rest)
      | none => fail
def dispD (prs : List ((Es → M D) × (Es → M D))) : Es → M D := fun es => do
  let kvs ← pairsD prs es
  guardM (decide (kvs.length ≤ 15))
  new (.dic (merge [] kvs))
def emptyD : Es → M D := fun _ => new (.dic [])
def emptyT : Es → M D := fun _ => new (.dit [])
theorem KR.merge {κ : Type} [DecidableEq κ] {K : PySem.W.Frag} {ρ : List Addr} {H : Hp} : ∀ {more : List (κ × D)} {ms : List (κ × V)} {ps : List (κ × D)} {ws : List (κ × V)}, KR K ρ H more ms → KR K ρ H ps ws → KR K ρ H (Mx.merge ps more) (ms.foldl (fun acc kv => putK acc kv.1 kv.2) ws)
  | [], _, _, _, h, g => by
    have h' : _ = [] := h
    subst h'
    exact g
  | m :: more, _, ps, ws, ⟨q, r, e, h1, h2, h3⟩, g => by
    subst e
    show KR K ρ H (Mx.merge (Mx.put ps m.1 m.2) more) (r.foldl _ (putK ws q.1 q.2))
    rw [← h1]
    exact KR.merge h3 (g.put m.1 h2)
theorem KR.keys {K : PySem.W.Frag} {ρ : List Addr} {H : Hp} : ∀ {ps : List (Key × D)} {ws : List (Key × V)}, KR K ρ H ps ws → ws.map (·.1) = ps.map (·.1)
  | [], _, h => by
    have h' : _ = [] := h
    rw [h']; rfl
  | p :: ps, _, ⟨q, r, e, h1, h2, h3⟩ => by subst e; rw [List.map_cons, List.map_cons, KR.keys h3, h1]
section
variable {X : Cx} {pos : Pos}
theorem pairs_of {K : PySem.W.Frag} {σ : St} : ∀ (prs : List ((Es → M D) × (Es → M D))) {ρ : List Addr} {H : Hp} {st st' : S} {es : Es} {kvs : List (Key × D)} {Q : List (V × V) → Hp → Prop}, Rel T K ρ H st → ER K ρ H es σ → pairsD prs es st = some (kvs, st') →
    (∀ (ρ' : List Addr) (ws : List (Key × V)) (H' : Hp), Ext ρ H ρ' H' → Rel T K ρ' H' st' → KR K ρ' H' kvs ws → Q (ws.map fun kv => (kV kv.1, kv.2)) H') → tPairs (prs.map fun p => (eM T K p.1, eM T K p.2)) σ H Q
  | [], ρ, H, st, st', es, kvs, Q, R, Er, h, k => by
    obtain ⟨rfl, rfl⟩ := pure_some h
    exact k ρ [] H (Ext.refl _ _) R rfl
  | (mk, mv) :: prs, ρ, H, st, st', es, kvs, Q, R, Er, h, k => by
    obtain ⟨x, s1, h1, h2⟩ := bind_some h
    obtain ⟨y, s2, h3, h4⟩ := bind_some h2
    cases hk : keyD x with
    | none => simp only [hk] at h4; cases h4
    | some key =>
      simp only [hk] at h4
      obtain ⟨rest, s3, h5, h6⟩ := bind_some h4
      obtain ⟨rfl, rfl⟩ := pure_some h6
      refine ⟨ρ, st, es, x, s1, R, Er, h1, fun ρ1 v1 H1 e1 R1 d1 => ⟨ρ1, s1, es, y, s2, R1, Er.ext R e1, h3, fun ρ2 v2 H2 e2 R2 d2 => ?_⟩⟩
      refine pairs_of prs R2 (Er.ext R (e1.trans e2)) h5 fun ρ3 ws H3 e3 R3 kr => ?_
      have e := keyD_of d1 hk
      subst e
      exact k ρ3 ((key, v2) :: ws) H3 ((e1.trans e2).trans e3) R3 (KR.cons rfl (DR.ext R2 e3 _ _ d2) kr)
theorem dnil : PPs X pos [] [] (([] : List ((Es → M D) × (Es → M D))).map fun p => (eM T X.K p.1, eM T X.K p.2)) := pps_nil
theorem dcons {k v : Expr} {ks : List (Option Expr)} {vs : List Expr} {mk mv : Es → M D} {prs : List ((Es → M D) × (Es → M D))} (hk : PE X k (eM T X.K mk)) (hv : PE X v (eM T X.K mv)) (hr : PPs X pos ks vs (prs.map fun p => (eM T X.K p.1, eM T X.K p.2))) :
    PPs X pos (some k :: ks) (v :: vs) (((mk, mv) :: prs).map fun p => (eM T X.K p.1, eM T X.K p.2)) := pps_cons hk hv hr
theorem StO.dk {ws : List (Key × V)} : StO (.dK ws) := .inr (.inl ⟨ws, rfl⟩)
theorem mdisp {keys : List (Option Expr)} {values : List Expr} {prs : List ((Es → M D) × (Es → M D))} (h : PPs X pos keys values (prs.map fun p => (eM T X.K p.1, eM T X.K p.2))) (hall : keys.all (·.isSome) = true := by rfl) (hl : keys.length = values.length := by rfl) (h0 : keys ≠ [] := by simp)
    (h15 : keys.length ≤ 15 := by decide) : PE X (.Dict keys values pos) (eM T X.K (dispD prs)) :=
  PE.as (pe_disp h hall hl h0 h15) fun σ H Q q => by
    obtain ⟨ρ, st, es, d, st', R, Er, hm, k⟩ := q
    obtain ⟨kvs, s1, h1, h2⟩ := bind_some hm
    obtain ⟨hz, h3⟩ := guarded h2
    cases h3
    intro p hp
    have E0 : Ext ρ H ρ (upd H p (.dK [])) := Ext.fresh hp
    have R0 : Rel T X.K ρ (upd H p (.dK [])) st := R.any hp
    have np : p ∉ ρ := fun z => by
      obtain ⟨u, e, _⟩ := R.at z
      rw [hp] at e; cases e
    refine pairs_of prs R0 (Er.ext R E0) h1 fun ρ1 ws H1 e1 R1 kr => ?_
    have hp1 : H1 p = some (.dK []) := e1.keep p _ upd_same np fun _ z => nomatch z
    have np1 : p ∉ ρ1 := fun z => by
      rcases e1.new p z with z | z
      · exact np z
      · rw [upd_same] at z; cases z
    refine ⟨hp1, ws, rfl, by rw [kr.length]; exact of_decide_eq_true hz, ?_⟩
    have nf : ∀ ob v, HO.dK [] ≠ .frz ob v := fun _ _ z => nomatch z
    refine k (ρ1 ++ [p]) _ _ ?_ (R1.close hp1 StO.dk nf np1 ⟨_, upd_same, ?_⟩) (ref_new R1)
    · have e2 := E0.trans e1
      refine ⟨e2.pre.trans (List.prefix_append _ _), fun b hb => ?_, fun a o q hn ht => by rw [upd_ne (ne_of_none q hp)]; exact e2.keep a o q hn ht, fun a ps q => by rw [upd_ne (ne_of_none q hp)]; exact e2.tbl a ps q, fun a o u q => by rw [upd_ne (ne_of_none q hp)]; exact e2.frz a o u q⟩
      rcases List.mem_append.mp hb with z | z
      · exact e2.new b z
      · have : b = p := by simpa using z
        subst this; exact .inr hp
    · exact KR.merge (KR.mv Mv.more _ _ (KR.mv (Mv.off (ρ := ρ1) hp1 StO.dk nf) _ _ kr)) rfl
theorem mdictK : PE X (.Dict [] [] pos) (eM T X.K emptyD) := PE.as pe_dnewK fun σ H Q q => by
  obtain ⟨ρ, st, es, d, st', R, Er, hm, k⟩ := q
  cases hm
  exact k.dic R rfl
theorem mdictT : PE X (.Dict [] [] pos) (eM T X.K emptyT) := PE.as pe_dnewT fun σ H Q q => by
  obtain ⟨ρ, st, es, d, st', R, Er, hm, k⟩ := q
  cases hm
  exact fun p hp => k (ρ ++ [p]) (.ref p) _ (Ext.new' hp) (R.push hp fun H' e x => ⟨[], e, rfl⟩) (ref_new R)
/-- what is never run -/
def failD {α : Type} : Es → M α := fun _ => fail
theorem mfail {e : Expr} : PE X e (eM T X.K failD) := ⟨fun _ _ _ _ _ _ h => by
  obtain ⟨ρ, st, es, d, st', R, Er, hm, k⟩ := h
  cases hm⟩
theorem mtfail {e : Expr} : PT X e (tM T X.K failD) := ⟨fun _ _ _ _ _ _ h => by
  obtain ⟨ρ, st, es, d, st', R, Er, hm, k⟩ := h
  cases hm⟩
theorem sfail {s0 : Stmt} : PS X s0 (sM T X.K failD) := ⟨fun _ _ _ _ _ _ h => by
  obtain ⟨ρ, st, es, es', f, st', R, Er, hm, k⟩ := h
  cases hm⟩
end
end Mx


/-! Mx13: {**a, **b}. -/
namespace Mx
open PySem PySem.Spec

section
variable {P : Program} {w : World} {κ : Type} [DecidableEq κ] {kn : KeyKind P w κ} {A : Around} {E : Value → Shared → Prop} {s : Shared}
/-- one pair is put into a display's dict -/
theorem put_pair {d : Addr} {have_ : List (κ × Value)} {k : κ} {key v : Value} {Q : Unit → Shared → Prop} (isk : kn.is k key = true) (m : s.heap.DictOf kn d have_)
    (fin : ∀ g, g.DictOf kn d (stored have_ k v) → Heap.SameBut d s.heap g → Q () { s with heap := g }) (hz : have_.length ≤ sizeLine) : wpAny (model P w) A (dictPut d (kn.hash k) key v) Q E s := by
  obtain ⟨ob, en, ep, got, exd, dat, keys, prs, nd⟩ := m
  have esz : en.size ≤ sizeLine := by
    have l1 := prs.length
    rw [Array.length_toList] at l1
    omega
  have same : (en.findIdx? fun e => kn.is k e.key) = have_.findIdx? fun kv => decide (kv.1 = k) := by
    rw [← prs.findIdx k]
    obtain ⟨l⟩ := en
    simp
  unfold dictPut
  refine wpAny_bind (wpAny_dictFind_of isk got dat keys ?_)
  cases fi : en.findIdx? fun e => kn.is k e.key with
  | some i =>
    refine wpAny_updateDict got dat (fin _ ⟨_, _, ep, Heap.get?_update_self _ got (Obj.isFreed_of_dict (Obj.data_mapDict dat _)), exd.mapDict _, Obj.data_mapDict dat _, keys.modify _ _, ?_, ?_⟩ (Heap.SameBut.update ..))
    · have fl : (en.toList.findIdx? fun e => kn.is k e.key) = some i := by
        rw [← fi]
        obtain ⟨l⟩ := en
        simp
      have q := prs.modify nd fl v
      rw [stored, if_pos (any_of_findIdx_some (same ▸ fi))]
      obtain ⟨l⟩ := en
      simpa using q
    · rw [stored, if_pos (any_of_findIdx_some (same ▸ fi)), keys_map_store]
      exact nd
  | none =>
    have out : k ∉ have_.map (·.1) := not_mem_of_findIdx_none (same ▸ fi)
    have no : ¬ (have_.any fun kv => decide (kv.1 = k)) = true := fun z => by
      obtain ⟨kv, h1, h2⟩ := List.any_eq_true.mp z
      exact out (List.mem_map.mpr ⟨kv, h1, of_decide_eq_true h2⟩)
    refine wpAny_updateDictKeys (hz := esz) got dat (fin _ ⟨_, _, ep + 1, Heap.get?_update_self _ got (Obj.isFreed_of_dict (Obj.data_mapDictKeys dat _)), exd.mapDictKeys _, Obj.data_mapDictKeys dat _, keys.push isk _, ?_, ?_⟩ (Heap.SameBut.update ..))
    · have q := prs.append isk (kn.hash k) v
      rw [stored, if_neg no]
      obtain ⟨l⟩ := en
      simpa using q
    · rw [stored, if_neg no, List.map_append]
      refine List.nodup_append.mpr ⟨nd, by simp, fun a ha b hb e => ?_⟩
      have eb : b = k := by simpa using hb
      exact out (eb ▸ e ▸ ha)
end
section
variable {P : Program} {w : World} {A : Around} {E : Value → Shared → Prop} {s : Shared}
theorem sub_dict : isSubtype (.type "dict") (.type "dict") = pure true := by first | rfl | (rw [isSubtype_type]; kernel_rfl)
theorem merge_plain {d o : Addr} {kvs more : List (L2.Key × Value)} {Q : Unit → Shared → Prop} (ndo : d ≠ o) (nos : (o == sysModules) = false) (md : s.heap.DictOf (L2.mixKind P w) d kvs) (mo : s.heap.DictOf (L2.mixKind P w) o more)
    (hz : kvs.length + more.length ≤ sizeLine) (fin : ∀ g, g.DictOf (L2.mixKind P w) d (merged kvs more) → g.DictOf (L2.mixKind P w) o more → Heap.SameBut d s.heap g → Q () { s with heap := g }) : wpAny (model P w) A (mergeMapping d (.ref o) false) Q E s := by
  obtain ⟨od, esd, epd, gd, cd, dd, kd, pd, nd⟩ := id md
  obtain ⟨oo, eso, epo, go, co, dao, ko, po, no⟩ := id mo
  unfold mergeMapping
  refine wpAny_bind (wpAny_isInstance mo.typeIs sub_dict ?_)
  rw [if_pos rfl]
  refine wpAny_bind (wpAny_specialOf mo.typeIs PySem.F.slot_dict_iter.lookup (wpAny_bind (wpAny_pure ?_)))
  rw [beq_self_eq_true]
  dsimp only
  rw [if_neg (by rw [nos]; exact Bool.false_ne_true)]
  refine wpAny_bind (wpAny_dictEntries gd dd ?_)
  have plain : ∀ e ∈ eso.toList, ∀ a, e.key ≠ .ref a := fun e he a z => by
    obtain ⟨k, h1, _⟩ := ko e (by simpa using he)
    rcases L2.keyIs_shape h1 with ⟨i, t, _, q⟩ | ⟨x, t, _, q⟩ <;> (rw [q] at z; cases z)
  have walk : wpAny (model P w) A (do
      let es ← dictEntries o
      let ep ← dictEpoch o
      forIn (List.range es.size) PUnit.unit fun i (_ : PUnit) => (do
        let es2 ← dictEntries o
        match es2[i]? with
          | some e => do
            holding [e.key, e.val] (dictPut d e.hash e.key e.val)
            let ep2 ← dictEpoch o
            if (ep2 != ep) = true then do
              (unsupported "dict.changed-during-merge" : Sem PUnit)
              pure (ForInStep.yield PUnit.unit)
            else pure (ForInStep.yield PUnit.unit)
          | x => do
            (unsupported "dict.changed-during-merge" : Sem PUnit)
            pure (ForInStep.yield PUnit.unit) : Sem (ForInStep PUnit))
      pure ()) Q E s := by
    refine wpAny_bind (wpAny_dictEntries go dao (wpAny_bind (wpAny_dictEpoch go dao (wpAny_bind ?_))))
    have len : more.length = eso.size := by
      have l1 := po.length
      rw [Array.length_toList] at l1
      exact l1.symm
    refine wpAny_forIn_list _ (fun rest _ s1 => ∃ (g : Heap) (i : Nat), s1 = { s with heap := g } ∧ rest = (List.range eso.size).drop i ∧ i ≤ eso.size ∧ g.DictOf (L2.mixKind P w) d (merged kvs (more.take i)) ∧ g.get? o = some oo ∧ Heap.SameBut d s.heap g)
      _ ?_ ?_ _ _ ⟨s.heap, 0, rfl, rfl, Nat.zero_le _, by simpa [merged] using md, go, Heap.SameBut.refl _ _⟩
    · rintro x rest u s1 ⟨g, i, rfl, hr, hi, m1, o1, sb⟩
      have lt : i < eso.size := by
        rcases Nat.lt_or_ge i eso.size with q | q
        · exact q
        · rw [List.drop_eq_nil_of_le (by rw [List.length_range]; exact q)] at hr
          cases hr
      have hx : x = i ∧ rest = (List.range eso.size).drop (i + 1) := by
        rw [List.drop_eq_getElem_cons (by rw [List.length_range]; exact lt), List.getElem_range] at hr
        injection hr with q1 q2
        exact ⟨q1, q2⟩
      obtain ⟨rfl, hrest⟩ := hx
      refine wpAny_bind (wpAny_dictEntries o1 dao ?_)
      rw [Array.getElem?_eq_getElem lt]
      obtain ⟨⟨k, v⟩, hkv⟩ : ∃ kv, more[x]? = some kv := ⟨more[x]'(by rw [len]; exact lt), List.getElem?_eq_getElem _⟩
      obtain ⟨isk, isv⟩ := po.get? (e := eso[x]) (by simp [lt]) hkv
      obtain ⟨k2, isk2, hh⟩ := ko eso[x] (Array.getElem_mem lt)
      have ek : k2 = k := (L2.mixKind P w).inj _ _ _ isk2 isk
      subst ek
      dsimp only
      rw [hh, isv]
      have few : (merged kvs (more.take x)).length ≤ sizeLine := by
        have l1 := merged_length_le kvs (more.take x)
        have l2 : (more.take x).length ≤ more.length := by rw [List.length_take]; exact Nat.min_le_right _ _
        omega
      refine wpAny_bind (wpAny_holding (put_pair isk m1 (fun g2 m2 sb2 => ?_) few))
      have o2 : g2.get? o = some oo := (sb2.2 o fun z => ndo z.symm).trans o1
      refine wpAny_bind (wpAny_dictEpoch o2 dao ?_)
      rw [if_neg (by simp)]
      exact wpAny_pure ⟨g2, x + 1, rfl, hrest, lt, by rw [merged_take_succ kvs more x (k2, v) hkv]; exact m2, o2, sb.trans sb2⟩
    · rintro u s1 ⟨g, i, rfl, hr, hi, m1, o1, sb⟩
      have hin : eso.size ≤ i := by
        have l1 := congrArg List.length hr
        rw [List.length_drop, List.length_range] at l1
        simp at l1
        omega
      have e : i = eso.size := Nat.le_antisymm hi hin
      refine wpAny_pure (fin g ?_ ⟨oo, eso, epo, o1, co, dao, ko, po, no⟩ sb)
      rw [e, ← len, List.take_length] at m1
      exact m1
  split
  · refine wpAny_bind (wpAny_dictEntries go dao (wpAny_bind ?_))
    rw [← Array.forIn_toList]
    refine wpAny_forIn_list _ (fun rest _ s1 => s1 = s ∧ ∀ e ∈ rest, e ∈ eso.toList) _ ?_ ?_ _ _ ⟨rfl, fun _ h => h⟩
    · rintro x rest u s1 ⟨rfl, hm⟩
      have np := plain x (hm x (List.mem_cons_self ..))
      have nx : (s1 = s1 ∧ ∀ e ∈ rest, e ∈ eso.toList) := ⟨rfl, fun e he => hm e (List.mem_cons_of_mem _ he)⟩
      cases hk : x.key with
      | ref a => exact absurd hk (np a)
      | _ => exact wpAny_pure nx
    · rintro u s1 ⟨rfl, _⟩
      exact walk
  · exact walk
end
section
variable {P : Program} {w : World} {A : Around} {E : Value → Shared → Prop} {s : Shared}
theorem two_stars {ta tb : Sem Value} {Q : Value → Shared → Prop}
    (h : wpAny (model P w) A ta (fun m s1 => wpAny (model P w) A (mergeMapping s.heap.objs.size m false) (fun _ s2 => wpAny (model P w) A tb (fun m2 s3 => wpAny (model P w) A (mergeMapping s.heap.objs.size m2 false) (fun _ s4 => Q (.ref s.heap.objs.size) s4) (fun _ _ => False) s3) (fun _ _ => False) s2) (fun _ _ => False) s1) (fun _ _ => False)
      { s with heap := s.heap.push { cls := .type "dict", data := .dict #[] } }) : wpAny (model P w) A (dictDisplay [(none, ta), (none, tb)]) Q E s := by
  unfold dictDisplay
  dsimp only
  refine wpAny_bind (wpAny_forIn_list _ (fun rest b s1 => (rest = [(none, ta), (none, tb)] ∧ b = (none, []) ∧ s1 = s) ∨ (rest = [(none, tb)] ∧ b = (some s.heap.objs.size, []) ∧
    wpAny (model P w) A tb (fun m2 s3 => wpAny (model P w) A (mergeMapping s.heap.objs.size m2 false) (fun _ s4 => Q (.ref s.heap.objs.size) s4) (fun _ _ => False) s3) (fun _ _ => False) s1) ∨ (rest = [] ∧ b = (some s.heap.objs.size, []) ∧ Q (.ref s.heap.objs.size) s1))
    _ ?_ ?_ _ _ (.inl ⟨rfl, rfl, rfl⟩))
  · rintro x rest b s1 (⟨e1, rfl, rfl⟩ | ⟨e1, rfl, h2⟩ | ⟨e1, _⟩)
    · cases e1
      dsimp only
      refine wpAny_bind ?_
      rw [if_pos (show ([] : List (Sem Value × Sem Value)).isEmpty = true from rfl)]
      refine wpAny_pure ?_
      dsimp only
      refine wpAny_bind (wpAny_alloc (wpAny_bind (wpAny_holding (wpAny_mono h (fun m s2 hm => ?_) fun _ _ z => z.elim))))
      exact wpAny_bind (wpAny_onRaise (wpAny_tryCatch (wpAny_onRaise (wpAny_holding (wpAny_mono hm (fun _ s3 h3 => wpAny_pure (.inr (.inl ⟨rfl, rfl, h3⟩))) fun _ _ z => z.elim)))))
    · cases e1
      dsimp only
      refine wpAny_bind ?_
      rw [if_pos (show ([] : List (Sem Value × Sem Value)).isEmpty = true from rfl)]
      refine wpAny_pure ?_
      dsimp only
      refine wpAny_bind (wpAny_pure (wpAny_bind (wpAny_holding (wpAny_mono h2 (fun m s2 hm => ?_) fun _ _ z => z.elim))))
      exact wpAny_bind (wpAny_onRaise (wpAny_tryCatch (wpAny_onRaise (wpAny_holding (wpAny_mono hm (fun _ s3 h3 => wpAny_pure (.inr (.inr ⟨rfl, rfl, h3⟩))) fun _ _ z => z.elim)))))
    · cases e1
  · rintro b s1 (⟨e1, _⟩ | ⟨e1, _⟩ | ⟨_, rfl, q⟩)
    · cases e1
    · cases e1
    · dsimp only
      refine wpAny_bind ?_
      rw [if_pos (show ([] : List (Sem Value × Sem Value)).isEmpty = true from rfl)]
      refine wpAny_pure ?_
      exact wpAny_pure q
end
section
open L2
variable {T : List (Addr × Str)} {K : PySem.W.Frag} {ρ ρ' : List Addr} {H H' : Hp} {st : S} {p : Addr}
theorem ER.mv (m : Mv ρ H ρ' H') {es : Es} {σ : L2.St} (h : ER K ρ H es σ) : ER K ρ' H' es σ := ⟨h.1, fun i d hi => let ⟨v, h1, h2⟩ := h.2 i d hi; ⟨v, h1, DR.mv m d v h2⟩⟩
theorem Rel.off (R : Rel T K ρ H st) {u u' : HO} (h : H p = some u) (z : StO u) (nf : ∀ ob v, u ≠ .frz ob v) (hp : p ∉ ρ) : Rel T K ρ (upd H p u') st :=
  ⟨Tabs.put R.tab h z, R.len, R.nd, fun i a o hi ho => (R.obj i a o hi ho).mv (Mv.off (ρ := ρ) (u' := u') h z nf) (upd_ne fun y => hp (y ▸ List.mem_of_getElem? hi))⟩
def dicOfD : D → M (List (Key × D))
  | .ref n => dicAt n
  | _ => fail
theorem dicOfD_some {d : D} {s s' : S} {kvs : List (Key × D)} (h : dicOfD d s = some (kvs, s')) : ∃ n, d = .ref n ∧ kvsOf s[n]? = some kvs ∧ s' = s := by
  cases d with
  | ref n => exact ⟨n, rfl, dicAt_some h⟩
  | _ => cases h
def star2D (a b : Es → M D) : Es → M D := fun es => do
  let x ← a es
  let kx ← dicOfD x
  let y ← b es
  let ky ← dicOfD y
  guardM (decide (kx.length + ky.length ≤ sizeLine))
  new (.dic (merge (merge [] kx) ky))
theorem nodk {ws : List (Key × V)} (ob : Obj) (v : HO) : HO.dK ws ≠ .frz ob v := fun z => nomatch z
section
variable {X : Cx} {pos : Pos} {a b : Expr} {ma mb : Es → M D}
theorem mstar2 (hx : X.xe = fun _ _ => False) (ha : PE X a (eM T X.K ma)) (hb : PE X b (eM T X.K mb)) : PE X (.Dict [none, none] [a, b] pos) (eM T X.K (star2D ma mb)) := by
  refine ⟨fun pins s σ H Q I h => ?_⟩
  obtain ⟨ρ, st, es, d, st', R, Er, hm, k⟩ := h
  obtain ⟨x, s1, h1, hm1⟩ := bind_some hm
  obtain ⟨kx, s1', h2, hm2⟩ := bind_some hm1
  obtain ⟨n, rfl, hkx, rfl⟩ := dicOfD_some h2
  obtain ⟨y, s2, h3, hm3⟩ := bind_some hm2
  obtain ⟨ky, s2', h4, hm4⟩ := bind_some hm3
  obtain ⟨m, rfl, hky, rfl⟩ := dicOfD_some h4
  obtain ⟨hz, h5⟩ := guarded hm4
  cases h5
  have hz := of_decide_eq_true hz
  rw [arm_eval_Dict]
  refine wpAny_bind (wpAny_standAt ?_)
  show wpAny (model X.prog X.w) X.A (dictDisplay [(none, do let x ← eval a X.env; standAt pos; pure x), (none, do let x ← eval b X.env; standAt pos; pure x)]) _ _ _
  have ha' := fun pins s σ H Q I => ha.run pins s σ H Q I
  have hb' := fun pins s σ H Q I => hb.run pins s σ H Q I
  rw [hx] at ha' hb'
  have hp : H s.heap.objs.size = none := I.hok.fresh (Nat.le_refl _)
  have np : s.heap.objs.size ∉ ρ := fun z => by
    obtain ⟨u, e, _⟩ := R.at z
    rw [hp] at e; cases e
  have I1 := I.laid (a := s.heap.objs.size) (o := .dK []) (h' := s.heap.push { cls := .type "dict", data := .dict #[] }) (t' := s.toks) (fun _ _ q => Heap.get?_push_of_some _ q) (Nat.le_refl _) (dk_empty s.heap I.big)
  have E1 : Ext ρ H ρ (upd H s.heap.objs.size (.dK [])) := Ext.fresh hp
  refine two_stars (wpAny_bind (wpAny_mono (ha' pins _ σ _ (fun v H1 => ∃ ρ1, Ext ρ (upd H s.heap.objs.size (.dK [])) ρ1 H1 ∧ Rel T X.K ρ1 H1 s1' ∧ DR X.K ρ1 H1 (.ref n) v) I1
    ⟨ρ, st, es, _, s1', R.any hp, Er.ext R E1, h1, fun ρ1 v1 H1 e1 R1 d1 => ⟨ρ1, e1, R1, d1⟩⟩) (fun u s3 ⟨v, H1, I2, rv, ρ1, e1, R1, d1⟩ => wpAny_bind (wpAny_standAt (wpAny_pure ?_))) fun _ _ z => z))
  generalize hP : s.heap.objs.size = p at *
  have p1 : H1 p = some (.dK []) := e1.keep p _ upd_same np fun _ z => nomatch z
  have np1 : p ∉ ρ1 := fun z => by
    rcases e1.new p z with z | z
    · exact np z
    · rw [upd_same] at z; cases z
  obtain ⟨o1, ws, rfl, ho1, r1, k1⟩ := R1.rdk d1 hkx
  cases rv
  have n1 : p ≠ o1 := fun z => np1 (z ▸ List.mem_of_getElem? ho1)
  obtain ⟨z1, sm1, vs1, rel1, dd1⟩ := dk_rd I2.hok r1
  obtain ⟨_, smp, vs0, rel0, dd0⟩ := dk_of I2.hok p1
  cases rel0
  have l1 : ws.length = vs1.length := Paired.length rel1
  have l1' : ws.length = kx.length := k1.length
  refine merge_plain n1 sm1 dd0 dd1 (by rw [List.length_nil, ← l1]; omega) fun g dp do_ sb => ?_
  have lm1 : (mergeK [] ws).length ≤ ws.length := by
    have q := length_mergeK ws []
    rw [List.length_nil] at q
    omega
  have he : ∃ q, g.get? p = some q := let ⟨q, _, _, hq, _⟩ := dp; ⟨q, hq⟩
  have I3 : L2.Inv X pins σ (upd H1 p (.dK (mergeK [] ws))) { s3 with heap := g } := d_write (t' := s3.toks) I2 (by rw [p1]; exact True.intro) sb he (dk_new (by omega) smp (rel1.merge .nil) dp)
  have R3 : Rel T X.K ρ1 (upd H1 p (.dK (mergeK [] ws))) s1' := R1.off p1 StO.dk nodk np1
  have M3 : Mv ρ1 H1 ρ1 (upd H1 p (.dK (mergeK [] ws))) := Mv.off p1 StO.dk nodk
  have Er3 : ER X.K ρ1 (upd H1 p (.dK (mergeK [] ws))) es σ := ((Er.ext R E1).ext (R.any hp) e1).mv M3
  refine wpAny_bind (wpAny_mono (hb' pins _ σ _ (fun v H2 => ∃ ρ2, Ext ρ1 (upd H1 p (.dK (mergeK [] ws))) ρ2 H2 ∧ Rel T X.K ρ2 H2 s2' ∧ DR X.K ρ2 H2 (.ref m) v) I3
    ⟨ρ1, s1', es, _, s2', R3, Er3, h3, fun ρ2 v2 H2 e2 R2 d2 => ⟨ρ2, e2, R2, d2⟩⟩) (fun u2 s4 ⟨v2, H2, I4, rv2, ρ2, e2, R2, d2⟩ => wpAny_bind (wpAny_standAt (wpAny_pure ?_))) fun _ _ z => z)
  have p2 : H2 p = some (.dK (mergeK [] ws)) := e2.keep p _ upd_same np1 fun _ z => nomatch z
  have np2 : p ∉ ρ2 := fun z => by
    rcases e2.new p z with z | z
    · exact np1 z
    · rw [upd_same] at z; cases z
  obtain ⟨o2, ws2, rfl, ho2, r2, k2⟩ := R2.rdk d2 hky
  cases rv2
  have n2 : p ≠ o2 := fun z => np2 (z ▸ List.mem_of_getElem? ho2)
  obtain ⟨z2, sm2, vs2, rel2, dd2⟩ := dk_rd I4.hok r2
  obtain ⟨_, smp2, vsp, relp, ddp⟩ := dk_of I4.hok p2
  have l2 : ws2.length = vs2.length := Paired.length rel2
  have l2' : ws2.length = ky.length := k2.length
  have lp : (mergeK [] ws).length = vsp.length := Paired.length relp
  refine merge_plain n2 sm2 ddp dd2 (by rw [← lp, ← l2]; omega) fun g2 dp2 do2 sb2 => ?_
  have lm2 : (mergeK (mergeK [] ws) ws2).length ≤ (mergeK [] ws).length + ws2.length := length_mergeK ws2 _
  have he2 : ∃ q, g2.get? p = some q := let ⟨q, _, _, hq, _⟩ := dp2; ⟨q, hq⟩
  have I5 : L2.Inv X pins σ (upd H2 p (.dK (mergeK (mergeK [] ws) ws2))) { s4 with heap := g2 } := d_write (t' := s4.toks) I4 (by rw [p2]; exact True.intro) sb2 he2 (dk_new (by omega) smp2 (rel2.merge relp) dp2)
  have k1' : KR X.K ρ2 H2 kx ws := KR.ext R3 e2 _ _ (KR.mv M3 _ _ k1)
  have M5 : Mv ρ2 H2 ρ2 (upd H2 p (.dK (mergeK (mergeK [] ws) ws2))) := Mv.off p2 StO.dk nodk
  refine ⟨.ref p, _, I5, rfl, k (ρ2 ++ [p]) _ _ ⟨(e1.pre.trans e2.pre).trans (List.prefix_append _ _), fun c hc => ?_, fun c o q hn ht => ?_, fun c ps q => ?_, fun c o u q => ?_⟩ (R2.close p2 StO.dk nodk np2 ⟨_, upd_same, ?_⟩) (ref_new R2)⟩
  · rcases List.mem_append.mp hc with z | z
    · by_cases hr : c ∈ ρ
      · exact .inl hr
      · right
        by_cases hcp : c = p
        · rw [hcp]; exact hp
        · cases q : H c with
          | none => rfl
          | some o =>
            have q1 : upd H p (.dK []) c = some o := by rw [upd_ne hcp]; exact q
            obtain ⟨o', q2⟩ := e1.there q1 hr
            rcases e2.new c z with z | z
            · rcases e1.new c z with z | z
              · exact absurd z hr
              · rw [q1] at z; cases z
            · rw [upd_ne hcp, q2] at z; cases z
    · have : c = p := by simpa using z
      subst this; exact .inr hp
  · have hcp : c ≠ p := ne_of_none q hp
    have q1 := e1.keep c o (by rw [upd_ne hcp]; exact q) hn ht
    have nc1 : c ∉ ρ1 := fun z => by
      rcases e1.new c z with z | z
      · exact hn z
      · rw [upd_ne hcp, q] at z; cases z
    rw [upd_ne hcp]
    exact e2.keep c o (by rw [upd_ne hcp]; exact q1) nc1 ht
  · have hcp : c ≠ p := ne_of_none q hp
    obtain ⟨m1, q1⟩ := e1.tbl c ps (by rw [upd_ne hcp]; exact q)
    obtain ⟨m2, q2⟩ := e2.tbl c (ps ++ m1) (by rw [upd_ne hcp]; exact q1)
    exact ⟨m1 ++ m2, by rw [upd_ne hcp, q2, Array.append_assoc]⟩
  · have hcp : c ≠ p := ne_of_none q hp
    have q1 := e1.frz c o u (by rw [upd_ne hcp]; exact q)
    rw [upd_ne hcp]
    exact e2.frz c o u (by rw [upd_ne hcp]; exact q1)
  · have hk : KR X.K (ρ2 ++ [p]) (upd H2 p (.dK (mergeK (mergeK [] ws) ws2))) kx ws := KR.mv Mv.more _ _ (KR.mv M5 _ _ k1')
    have hk2 : KR X.K (ρ2 ++ [p]) (upd H2 p (.dK (mergeK (mergeK [] ws) ws2))) ky ws2 := KR.mv Mv.more _ _ (KR.mv M5 _ _ k2)
    exact KR.merge hk2 (KR.merge hk rfl)
end
end
end Mx


/-! Mx14: sorted(e, key=lambda x: repr(x)). -/
namespace Mx
open PySem PySem.Spec L2
variable {T : List (Addr × Str)}

/-- tables may grow, all else stays -/
def Grow (H H' : Hp) : Prop := ∀ b o, H b = some o → (∃ ps more, o = .tbl ps ∧ H' b = some (.tbl (ps ++ more))) ∨ H' b = some o
theorem Grow.refl (H : Hp) : Grow H H := fun _ _ h => .inr h
theorem Grow.ext {ρ : List Addr} {H H' : Hp} (g : Grow H H') : Ext ρ H ρ H' := by
  refine ⟨List.prefix_refl _, fun _ h => .inl h, fun a o q _ ht => ?_, fun a ps q => ?_, fun a o u q => ?_⟩
  · rcases g a o q with ⟨ps, _, e, _⟩ | e
    · exact absurd e (ht ps)
    · exact e
  · rcases g a _ q with ⟨qs, more, e, z⟩ | e
    · cases e; exact ⟨more, z⟩
    · exact tbl_same e
  · rcases g a _ q with ⟨qs, more, e, z⟩ | e
    · cases e
    · exact e
theorem Grow.rel {K : PySem.W.Frag} {ρ : List Addr} {H H' : Hp} {st : S} (g : Grow H H') (R : Rel T K ρ H st) (t : LamX.Tabs T H') : Rel T K ρ H' st :=
  ⟨t, R.len, R.nd, fun i a o hi ho => by
    have q := R.obj i a o hi ho
    obtain ⟨u, hu, z⟩ := q.some
    refine q.ext R g.ext ?_
    rcases g a u hu with ⟨ps, _, e, _⟩ | e
    · exact absurd e (z.notTbl ps)
    · rw [e, hu]⟩
section
variable {X : Cx} {pins : List (Addr × Obj)} {σ : L2.St} {H : Hp} {s : Shared}
/-- the making of a lambda: what it changes, told in full -/
theorem lam_new {c P : Addr} {params : Arguments} {body : Expr} {scope : Scope} {pos : Pos} {E : Value → Shared → Prop} {Q : Value → Shared → Prop} (I : L2.Inv X pins σ H s) (TB : LamX.TabB X.base X.mg c P) (hcode : X.env.code = .ref c)
    (mem : (P, X.env.qual ++ "<lambda>") ∈ T) (one : ∀ p ∈ T, p.1 = P → p.2 = X.env.qual ++ "<lambda>") (tabs : LamX.Tabs T H) (nodef : defaultsOf params X.env = ([], [])) (nofree : ∀ y ∈ scope.names, y.2 ≠ .free)
    (h : ∀ (f c' : Addr) (pm ctv : Value) (H1 : Hp) (s1 : Shared), L2.Inv X pins σ H1 s1 → Grow H H1 → LamX.Tabs T H1 →
      s1.heap.get? f = some (PySem.W.kla_obj "<lambda>" (X.env.qual ++ "<lambda>") params body scope (cloFrom X.env.cells scope.names []) pm c' ctv) → H1 c' = some (LamX.CodeO c' (X.env.qual ++ "<lambda>")) → Q (.ref f) s1) :
    wpAny (model X.prog X.w) X.A (eval (.Lambda params body scope pos) X.env) Q E s := by
  obtain ⟨ps, atP, triple, among⟩ := tabs _ mem
  have nf : ∀ y ∈ scope.names, y.2 = .free → ∃ c, X.env.cells.lookup y.1 = some c := fun y hy e => absurd e (nofree y hy)
  have bP := TB.bm.keeps I.bk
  have oP : s.heap.get? P = some { cls := .none, data := .fields ps } := I.hok P _ atP
  refine PySem.W.kla_eval nodef ?_
  cases look : codeAmong pos ps.toList with
  | some cv =>
    obtain ⟨c', e, isc⟩ := among pos cv look
    subst e
    refine PySem.W.kla_makeFunctionHit (mg := X.mg) (c := c) (P := P) (ps := ps) (closure_ok nf) I.ok.glob (I.mod.glob.keeps I.bk) hcode (TB.code.keeps I.bk) oP triple look bP fun ctv g tk old _ => ?_
    exact h g.objs.size c' _ ctv H _ (I.kept fun b o e => Heap.get?_push_of_some _ (old b o e)) (Grow.refl H) tabs (Heap.get?_push_size _ rfl) isc
  | none =>
    refine PySem.W.kla_makeFunction (mg := X.mg) (c := c) (P := P) (ps := ps) (closure_ok nf) I.ok.glob (I.mod.glob.keeps I.bk) hcode (TB.code.keeps I.bk) oP triple look TB.gP bP fun c' ctv g tk old ge lt rec tab => ?_
    obtain ⟨c2, oc, vs, t, e2, isoc, dat, nm⟩ := rec
    cases e2
    have fresh : H c' = none := I.hok.fresh ge
    have J := LamX.inv_table (t' := tk) (more := #[rawInt pos.line, rawInt pos.col, .ref c']) (h' := g.push (PySem.W.kla_obj "<lambda>" (X.env.qual ++ "<lambda>") params body scope (cloFrom X.env.cells scope.names []) ((X.mg "__name__").getD .none) c' ctv)) I atP
      (fun b o nb e => Heap.get?_push_of_some _ (old b o nb e)) (Heap.get?_push_of_some _ tab) ge ⟨oc, vs, t, Heap.get?_push_of_some _ isoc, dat, nm⟩
    have gr : Grow H (upd (upd H P (.tbl (ps ++ #[rawInt pos.line, rawInt pos.col, .ref c']))) c' (LamX.CodeO c' (X.env.qual ++ "<lambda>"))) := fun b o e => by
      have nb : b ≠ c' := ne_of_none e fresh
      by_cases z : b = P
      · subst z
        rw [atP] at e
        cases e
        exact .inl ⟨ps, _, rfl, by rw [upd_ne nb, upd_same]⟩
      · exact .inr (by rw [upd_ne nb, upd_ne z]; exact e)
    have codeKeep : ∀ c0 q, H c0 = some (LamX.CodeO c0 q) → upd (upd H P (.tbl (ps ++ #[rawInt pos.line, rawInt pos.col, .ref c']))) c' (LamX.CodeO c' (X.env.qual ++ "<lambda>")) c0 = some (LamX.CodeO c0 q) := fun c0 q e => by
      rcases gr c0 _ e with ⟨qs, _, z, _⟩ | z
      · exact absurd z (LamX.codeO_ne qs)
      · exact z
    refine h g.objs.size c' _ ctv _ _ J gr (fun p hp => ?_) (Heap.get?_push_size _ rfl) upd_same
    obtain ⟨qs, a1, a2, a3⟩ := tabs p hp
    by_cases z : p.1 = P
    · have eq := one p hp z
      rw [z] at a1 ⊢
      rw [atP] at a1
      cases a1
      rw [eq]
      have el : (ps ++ #[rawInt pos.line, rawInt pos.col, .ref c']).toList = ps.toList ++ [rawInt pos.line, rawInt pos.col, .ref c'] := by simp
      refine ⟨_, by rw [upd_ne (ne_of_none atP fresh), upd_same], by rw [el]; exact PySem.TriplesOk_snoc _ _ _ _ triple, fun p' cv hcv => ?_⟩
      rw [el] at hcv
      rcases LamX.among_app _ triple hcv with y | y
      · obtain ⟨c0, q1, q2⟩ := among p' cv y
        exact ⟨c0, q1, codeKeep _ _ q2⟩
      · exact ⟨c', y, upd_same⟩
    · refine ⟨qs, by rw [upd_ne (ne_of_none a1 fresh), upd_ne z]; exact a1, a2, fun p' cv hcv => ?_⟩
      obtain ⟨c0, q1, q2⟩ := a3 p' cv hcv
      exact ⟨c0, q1, codeKeep _ _ q2⟩
/-- a name that stands in a slot: the state stays -/
theorem var_raw {E : Value → Shared → Prop} {i : Nat} {x : Str} {pos : Pos} {v : V} {Q : Value → Shared → Prop} (I : L2.Inv X pins σ H s) (hN : X.N[i]? = some x) (hv : Vis X.env.scope x) (e : σ[i]? = some (some v)) (h : ∀ u, RelV v u → Q u s)
    (hd : (x == ("__debug__" : Str)) = false := by decide) (hcd : (x == ("__classdict__" : Str)) = false := by decide) : wpAny (model X.prog X.w) X.A (eval (.Name x pos) X.env) Q E s := by
  obtain ⟨m, ns, look⟩ := I.loc
  obtain ⟨u, r, l⟩ := look i x v hN e hv
  rcases l with ⟨k, z⟩ | ⟨k | k, c, z, y⟩
  · exact wpAny_Name (wpAny_loadName_local I.ok.kind k ns z (h u r)) hd
  · exact wpAny_Name (wpAny_loadName_cell I.ok.kind k z y (h u r)) hd
  · exact wpAny_Name (wpAny_loadName_free I.ok.kind k z y (h u r) hcd) hd
end
theorem clo_none (cells : List (Str × Addr)) : ∀ (names : List (Str × NameKind)) (acc : List (Str × Addr)), (∀ y ∈ names, y.2 ≠ .free) → cloFrom cells names acc = acc
  | [], _, _ => rfl
  | (n, k) :: r, acc, h => by
    unfold cloFrom
    have hk : (k == NameKind.free) = false := by
      cases e : k == NameKind.free with
      | false => rfl
      | true => exact absurd (by simpa using e) (h (n, k) (List.mem_cons_self ..))
    rw [if_neg (by rw [hk]; exact Bool.false_ne_true)]
    exact clo_none cells r acc fun y hy => h y (List.mem_cons_of_mem _ hy)
/-- what repr gives, if it may be asked -/
def shownD (st : S) (d : D) : Option Str := match toPy st 64 d with
  | some p => if p.showable && decide (p.shown.length ≤ sizeLine) then some p.shown else none
  | none => none
section
variable {X : Cx} {pins : List (Addr × Obj)} {σ : L2.St} {H : Hp} {s : Shared}
theorem repr_raw {E : Value → Shared → Prop} {ρ : List Addr} {st : S} {d : D} {v : V} {u : Value} {z : Str} {Q : Value → Shared → Prop} (I : L2.Inv X pins σ H s) (R : Rel T X.K ρ H st) (hd : DR X.K ρ H d v) (ru : RelV v u) (hg : X.A.guards = some []) (hu : X.A.units + 70 < cLine)
    (hz : shownD st d = some z) (h : ∀ (g : Heap) (t : Tok) (tk : Nat), (∀ b o, s.heap.get? b = some o → g.get? b = some o) → Q (.str z t) { s with heap := g, toks := tk }) :
    wpAny (model X.prog X.w) X.A (call (.builtin "repr") [u]) Q E s := by
  unfold shownD at hz
  split at hz
  · rename_i p hp
    split at hz
    · rename_i hs
      cases hz
      rw [Bool.and_eq_true, decide_eq_true_eq] at hs
      have P := toPy_ok R 64 d v p hd hp
      obtain ⟨rd, hrd⟩ := P.dp.reads I p v u ru
      have deep := P.deep
      cases u with
      | ref a => exact repr_of_reads' hrd hs.1 (PyData.noDict_hsm (PyData.hasDict_of_canLay p P.lay)) hg (by omega) (fun _ _ q => q) (fun g t tk hk => h g t tk hk) hs.2
      | none => cases hrd; exact PySem.P.repr_of_none (h _ _ _ fun _ _ q => q)
      | bool b => cases hrd; exact PySem.P.repr_of_bool (h _ _ _ fun _ _ q => q)
      | int i t => cases hrd; exact PySem.P.repr_of_int (of_decide_eq_true hs.1) (h _ _ _ fun _ _ q => q)
      | str x t => cases hrd; exact PySem.P.repr_of_str (h _ _ _ fun _ _ q => q) hs.2
      | _ => cases hrd
    · cases hz
  · cases hz
/-- the lambda's turn at an item -/
theorem turn_repr {ρ : List Addr} {st : S} {d : D} {v : V} {u : Value} {z : Str} {f c' : Addr} {pm ctv : Value} {params : Arguments} {scope : Scope} {x : Str} {p1 p2 p3 : Pos} {g : Heap} {tk : Nat}
    (I : L2.Inv X pins σ H s) (R : Rel T X.K ρ H st) (hd : DR X.K ρ H d v) (ru : RelV v u) (rm : Rm 2 X.A) (hz : shownD st d = some z)
    (isf : s.heap.get? f = some (PySem.W.kla_obj "<lambda>" (X.env.qual ++ "<lambda>") params (.Call (.Name "repr" p1) [.Name x p2] [] p3) scope (cloFrom X.env.cells scope.names []) pm c' ctv)) (isc : H c' = some (LamX.CodeO c' (X.env.qual ++ "<lambda>")))
    (S0 : FnScope [x] [x] scope) (nofree : ∀ y ∈ scope.names, y.2 ≠ .free) (nm : X.mg "repr" = none) (gl : scope.names.lookup ("repr" : Str) = some .globalImplicit) (vis : Vis scope x) (n1 : (x == ("__debug__" : Str)) = false) (n2 : (x == ("__classdict__" : Str)) = false)
    (bind : ∀ (cl : List (Str × Addr)) (pm cdv ctv a : Value), bindArgs (PySem.W.kla_fn "<lambda>" (X.env.qual ++ "<lambda>") params (.Call (.Name "repr" p1) [.Name x p2] [] p3) scope cl pm cdv ctv) ⟨[a], []⟩ = pure [(x, a)])
    (old : ∀ b o, s.heap.get? b = some o → g.get? b = some o) :
    wpAny (model X.prog X.w) X.A.in1.in1 (call (.ref f) [u]) (PySem.W.KeyPure (.str z) { s with heap := g, toks := tk }) (fun _ _ => False) { s with heap := g, toks := tk } := by
  have J : L2.Inv X pins σ H { s with heap := g, toks := tk } := I.kept old
  have e0 : Env0 X.prog X.w X.K X.mg X.base X.A.in1.in1 X.stack { s with heap := g, toks := tk } H := J.env0.in1.in1
  obtain ⟨⟨oc, vs, t, hoc, hdc, hvc⟩, _, _⟩ := J.hok c' _ isc
  have nocl : cloFrom X.env.cells scope.names [] = [] := clo_none _ _ _ nofree
  rw [nocl] at isf
  have hkind : ∀ y ∈ [(x, u)], scope.names.lookup y.1 = some .local ∨ (scope.names.lookup y.1 = some .cell ∧ ((cellsFrom (g.objs.size + 1) scope.names []).lookup y.1).isSome = true) := fun y hy => by
    have ey : y = (x, u) := by simpa using hy
    subst ey
    rcases S0.par x (List.mem_cons_self ..) with q | q
    · exact .inl q
    · exact .inr ⟨q, PySem.W.cellsFrom_some _ _ _ (.inl q)⟩
  refine wpAny_call (PySem.W.kla_callFunE (by have := rm.r.dp; show X.A.depth < recursionLimit; omega) (old _ _ isf) rfl S0.co S0.gen rfl ⟨c', oc, vs, t, rfl, hoc, hdc, hvc⟩ ?_)
  rw [bind]
  refine wpAny_pure (wpAny_newFunctionEnv_cells S0.kind hkind fun env he s1 y => ?_)
  subst he
  have r2 : Vals [v] [u] := .cons ru .nil
  refine ⟨J.nolimit.keeps y.toInCall.keep, PySem.W.kla_codeExpr ?_⟩
  have K0 : L2.Inv (cxOf CX0 X.prog X.w X.K X.mg X.base [x] (X.env.qual ++ "<lambda>") scope f (.ref c') X.A.in1.in1 X.stack { s with heap := g, toks := tk } H E0) [] (start [x] [v]) H s1 := inv_start S0 rm.r.hd e0 rfl r2 y
  obtain ⟨g1, tk1, rfl, old1⟩ := y.done
  have gu : (X.A.in1.in1.deeper (PyProof.Rows.envOfC (X.env.qual ++ "<lambda>") scope g.objs.size f (.ref c'))).units + 70 < cLine := by
    have := rm.r.un
    show X.A.units + 1 + 1 + 3 + 70 < cLine
    omega
  refine wpAny_Call_Name_kw (ld_blt (X := cxOf CX0 X.prog X.w X.K X.mg X.base [x] (X.env.qual ++ "<lambda>") scope f (.ref c') X.A.in1.in1 X.stack { s with heap := g, toks := tk } H E0) K0 gl nm PyProof.Rows.boot_repr ?_)
  refine PyProof.Rows.callWith_builtin1 (Calls.spliced_cons (var_raw (v := v) (i := 0) K0 rfl vis rfl (fun u2 r3 => Calls.spliced_nil ?_) n1 n2)) rfl rfl
  refine repr_raw (X := cxOf CX0 X.prog X.w X.K X.mg X.base [x] (X.env.qual ++ "<lambda>") scope f (.ref c') X.A.in1.in1 X.stack { s with heap := g, toks := tk } H E0) K0 R hd r3 rm.g gu hz fun g2 t2 tk2 old2 => ?_
  exact ⟨g2, tk2, rfl, fun b o e => old2 b o (old1 b o e), Reads.str _ _⟩
end
/-! ### the rule -/
def keyOf (st : S) (d : D) : PyData := .str ((shownD st d).getD "")
def allShown (st : S) (ds : List D) : Bool := ds.all fun d => (shownD st d).isSome
def sortRef (n : Nat) : M D := fun st => match st[n]? with
  | some (.lst ds) => if allShown st ds then some (.ref st.length, st ++ [.lst (ds.mergeSort (PySem.W.dataLe false (keyOf st)))]) else none
  | _ => none
def sortR (me : Es → M D) : Es → M D := fun es => do
  let x ← me es
  match x with
    | .ref n => sortRef n
    | _ => fail
section
variable {K : PySem.W.Frag} {ρ : List Addr} {H : Hp}
theorem each_of : ∀ {ds : List D} {vs : List V} {us : List Value}, DRs K ρ H ds vs → Vals vs us → PySem.W.EachIs (fun u d => ∃ x, RelV x u ∧ DR K ρ H d x) us ds
  | [], _, us, h, r => by
    rw [DRs] at h
    subst h
    cases r
    exact .nil
  | d :: ds, _, us, h, r => by
    rw [DRs] at h
    obtain ⟨v, w, e, h1, h2⟩ := h
    subst e
    cases r with
    | cons r1 r2 => exact .cons ⟨v, r1, h1⟩ (each_of h2 r2)
theorem of_each : ∀ {ds : List D} {us : List Value}, PySem.W.EachIs (fun u d => ∃ x, RelV x u ∧ DR K ρ H d x) us ds → ∃ vs, Vals vs us ∧ DRs K ρ H ds vs
  | [], _, h => by
    cases h
    exact ⟨[], .nil, DRs.nil⟩
  | d :: ds, _, h => by
    cases h with
    | cons a r =>
      obtain ⟨x, h1, h2⟩ := a
      obtain ⟨vs, h3, h4⟩ := of_each r
      exact ⟨x :: vs, .cons h1 h3, DRs.cons h2 h4⟩
end
section
variable {X : Cx}
theorem msortR {a : Expr} {me : Es → M D} {p pos kpos lpos p1 p2 p3 : Pos} {params : Arguments} {scope : Scope} {x : Str} {c P : Addr} (rm : Rm 2 X.A) (ha : PE X a (eM T X.K me)) (hg : Gl X "sorted") (hm : X.mg "sorted" = none) (TB : LamX.TabB X.base X.mg c P) (hcode : X.env.code = .ref c)
    (mem : (P, X.env.qual ++ "<lambda>") ∈ T) (one : ∀ p ∈ T, p.1 = P → p.2 = X.env.qual ++ "<lambda>") (nm : X.mg "repr" = none)
    (bind : ∀ (cl : List (Str × Addr)) (pm cdv ctv a : Value), bindArgs (PySem.W.kla_fn "<lambda>" (X.env.qual ++ "<lambda>") params (.Call (.Name "repr" p1) [.Name x p2] [] p3) scope cl pm cdv ctv) ⟨[a], []⟩ = pure [(x, a)])
    (S0 : FnScope [x] [x] scope) (gl : scope.names.lookup ("repr" : Str) = some .globalImplicit) (vis : Vis scope x) (nodef : defaultsOf params X.env = ([], [])) (nofree : ∀ y ∈ scope.names, y.2 ≠ .free) (n1 : (x == ("__debug__" : Str)) = false) (n2 : (x == ("__classdict__" : Str)) = false)
    (he : backTo pos (starEach [a] X.env) = (false, eval a X.env) :: backTo pos (starEach [] X.env) := by rfl) (hpl : (backTo pos (starEach [a] X.env)).any (·.1) = false := by rfl) :
    PE X (.Call (.Name "sorted" p) [a] [⟨some "key", .Lambda params (.Call (.Name "repr" p1) [.Name x p2] [] p3) scope lpos, kpos⟩] pos) (eM T X.K (sortR me)) := by
  refine ⟨fun pins s σ H Q I h => wpAny_Call_Name_kw (ld_blt I hg hm PyProof.Rows.boot_sorted ?_)⟩
  obtain ⟨ρ, st, es, d, st', R, Er, hrun, k⟩ := h
  obtain ⟨y, st1, h1, h2⟩ := bind_some hrun
  cases y with
  | ref n =>
    have h3 : sortRef n st1 = some (d, st') := h2
    unfold sortRef at h3
    split at h3
    · rename_i ds hn
      split at h3
      · rename_i hall
        cases h3
        refine PyProof.Rows.callWith_kw ?_ he hpl rfl rfl
        rw [he]
        refine Calls.spliced_cons (thn (ha.run pins s σ H (fun v H1 => ∃ ρ1, Ext ρ H ρ1 H1 ∧ Rel T X.K ρ1 H1 st1 ∧ DR X.K ρ1 H1 (.ref n) v) I ⟨ρ, st, es, _, st1, R, Er, h1, fun ρ1 v1 H1 e1 R1 d1 => ⟨ρ1, e1, R1, d1⟩⟩) fun u s1 ⟨v, H1, I1, r1, ρ1, e1, R1, d1⟩ => Calls.spliced_nil ?_)
        show wpAny _ _ (evalAll ((do let v ← eval (.Lambda params (.Call (.Name "repr" p1) [.Name x p2] [] p3) scope lpos) X.env; standAt pos; pure v) :: [])) _ _ s1
        refine wpAny_evalAll_cons (wpAny_bind (lam_new I1 TB hcode mem one R1.tab nodef nofree fun f c' pm ctv H2 s2 I2 gr tabs isf isc => wpAny_bind (wpAny_standAt (wpAny_pure (wpAny_evalAll_nil ?_)))))
        have R2 := gr.rel R1 tabs
        have d2 := DR.ext R1 (gr.ext (ρ := ρ1)) _ _ d1
        obtain ⟨l, vs, rfl, _, q1, q2⟩ := R2.lst d2 hn
        cases r1
        obtain ⟨its, rv, pl, hz⟩ := I2.list (SqL.of q1)
        have hlen : its.length = ds.length := by rw [← rv.length, q2.length]
        show wpAny _ _ (call (.builtin "sorted") [.ref l] [("key", .ref f)]) _ _ s2
        refine PySem.W.sorted_key_data (b := false) (R := fun u d => ∃ x, RelV x u ∧ DR X.K ρ1 H2 d x) (keyOf st1) pl.isList (each_of q2 rv) (PySem.W.AllAlike.of fun _ _ => by simp [PySem.W.alike, keyOf]) (.inr fun z hz2 => ?_) (by rw [← q2.length]; exact hz) (fun b _ => ?_)
          (PyProof.Rows.ksk_s1 _ _) (fun _ => PyProof.Rows.ksk_l1 _ _) (fun _ => PyProof.Rows.ksk_t1 _ _) (fun u b hb hin g tk old => ?_) fun out cc g tk old fresh isl hl e2 => ?_
        · obtain ⟨b, _, rfl⟩ := List.mem_map.mp hz2
          exact ⟨fun e => (by cases e), fun xs e => (by cases e)⟩
        · have := rm.r.un
          show X.A.units + 2 + 0 < cLine
          omega
        · obtain ⟨xv, hx1, hx2⟩ := hb
          have hsome : (shownD st1 b).isSome = true := List.all_eq_true.mp hall b hin
          obtain ⟨z, hz2⟩ := Option.isSome_iff_exists.mp hsome
          have ek : keyOf st1 b = .str z := by unfold keyOf; rw [hz2]; rfl
          rw [ek]
          exact turn_repr I2 R2 hx2 hx1 rm hz2 isf isc S0 nofree nm gl vis n1 n2 bind old
        · obtain ⟨ws, v1, v2⟩ := of_each e2
          have hws : ws.length ≤ sizeLine := by rw [v1.length, hl, ← q2.length]; exact hz
          refine ⟨.ref (s2.heap.objs.size + 1), _, I2.laid (a := s2.heap.objs.size + 1) (o := .lst ws) (t' := tk) old (Nat.le_succ _) ⟨hws, out, cc, v1, isl⟩, rfl, ?_⟩
          exact Post.lst R2 (fun ρ3 v3 H3 e3 R3 d3 => k ρ3 v3 H3 ((e1.trans gr.ext).trans e3) R3 d3) v2 _ (I2.hok.fresh (Nat.le_succ _))
      · cases h3
    · cases h3
  | _ => cases h2
end
end Mx


/-! Mx15: short words for printed proofs. -/
namespace Mx
open PySem PySem.Spec L2
variable {T : List (Addr × Str)}

theorem dr_bl {K : PySem.W.Frag} {ρ : List Addr} {H : Hp} {b : Bool} : DR K ρ H (.bl b) (.bl b) := by rw [DR]
/-! ### operators by name -/
def eqO (a b : D) : M D := blM (eqD a b)
def neO (a b : D) : M D := blM (notM (eqD a b))
def ltO (a b : D) : M D := blM (ltD a b)
def gtO (a b : D) : M D := blM (ltD b a)
def leO (a b : D) : M D := blM (leD a b)
def geO (a b : D) : M D := blM (leD b a)
def isO (a b : D) : M D := blM (isD a b)
def isnO (a b : D) : M D := blM (notM (isD a b))
def inO (a b : D) : M D := blM (do
  let q ← inD a b
  pure (id q))
def ninO (a b : D) : M D := blM (do
  let q ← inD a b
  pure (not q))
section
variable {X : Cx}
theorem o_eq (h : X.A.units + 64 < cLine) : OpR X (compareOp .Eq) (r2M T X.K eqO) := op_eqM h
theorem o_ne (h : X.A.units + 64 < cLine) : OpR X (compareOp .NotEq) (r2M T X.K neO) := op_neM h
theorem o_lt : OpR X (compareOp .Lt) (r2M T X.K ltO) := op_ltM
theorem o_gt : OpR X (compareOp .Gt) (r2M T X.K gtO) := op_gtM
theorem o_le : OpR X (compareOp .LtE) (r2M T X.K leO) := op_leM
theorem o_ge : OpR X (compareOp .GtE) (r2M T X.K geO) := op_geM
theorem o_is : OpR X (compareOp .Is) (r2M T X.K isO) := op_isM
theorem o_isn : OpR X (compareOp .IsNot) (r2M T X.K isnO) := op_isnotM
theorem o_in (h : X.A.units + 65 < cLine) : OpR X (compareOp .In) (r2M T X.K inO) := op_inM h
theorem o_nin (h : X.A.units + 65 < cLine) : OpR X (compareOp .NotIn) (r2M T X.K ninO) := op_notInM h
theorem mtchain {a b c : Expr} {ma mb mc : Es → M D} {pos : Pos} {op op' : CmpOp} {g g' : D → D → M D} (ho : OpR X (compareOp op) (r2M T X.K g)) (ho' : OpR X (compareOp op') (r2M T X.K g')) (ha : PE X a (eM T X.K ma)) (hb : PE X b (eM T X.K mb)) (hc : PE X c (eM T X.K mc))
    (hm : lastMarks [op, op'] [b, c] = false := by with_unfolding_all rfl) (he : ∀ whole, isTrue (.Compare a [op, op'] [b, c] pos) X.env whole = (do let v ← whole; standAt (Expr.pos (.Compare a [op, op'] [b, c] pos)); holding [v] (truthy v)) := by intro _; rfl) :
    PT X (.Compare a [op, op'] [b, c] pos) (tM T X.K (tstD (chD g g' ma mb mc))) := mtst (mchain ho ho' ha hb hc hm) he
/-- an int of the module -/
theorem mgi {x : Str} {i : Int} {pos : Pos} (hg : Gl X x) (h : ∃ t, X.mg x = some (.int i t)) (hdb : (x == ("__debug__" : Str)) = false := by decide) : PE X (.Name x pos) (eM T X.K (cD (.int i))) :=
  let ⟨_, e⟩ := h
  mglob (v := .int i) hg e ⟨_, rfl⟩ std_int hdb
theorem mgs {x : Str} {i : Str} {pos : Pos} (hg : Gl X x) (h : ∃ t, X.mg x = some (.str i t)) (hdb : (x == ("__debug__" : Str)) = false := by decide) : PE X (.Name x pos) (eM T X.K (cD (.str i))) :=
  let ⟨_, e⟩ := h
  mglob (v := .str i) hg e ⟨_, rfl⟩ std_str hdb
/-! ### a dict of the module -/
/-- what is known of the dict at d: keys that are there, keys that are not -/
def Kd (K : PySem.W.Frag) (d : Addr) (kn : List (Str × Option D)) : Prop := ∀ p ∈ kn, match p.2 with
  | none => PySem.W.nsIn K d p.1 = some none
  | some e => ∃ u v, PySem.W.nsIn K d p.1 = some (some u) ∧ RelV v u ∧ Std K e v
def kdLook (kn : List (Str × Option D)) (x : D) : M (Option D) := fun st => match x with
  | .str z => match look kn z with
    | some r => some (r, st)
    | none => none
  | _ => none
def kdIn (kn : List (Str × Option D)) (a : Es → M D) : Es → M D := fun es => do
  let x ← a es
  let r ← kdLook kn x
  pure (.bl r.isSome)
def kdNin (kn : List (Str × Option D)) (a : Es → M D) : Es → M D := fun es => do
  let x ← a es
  let r ← kdLook kn x
  pure (.bl (!r.isSome))
def kdIx (kn : List (Str × Option D)) (a : Es → M D) : Es → M D := fun es => do
  let x ← a es
  let r ← kdLook kn x
  match r with
    | some d => pure d
    | none => fail
theorem look_mem {κ β : Type} [DecidableEq κ] : ∀ {l : List (κ × β)} {k : κ} {b : β}, look l k = some b → (k, b) ∈ l
  | [], _, _, h => by cases h
  | p :: r, k, b, h => by
    unfold look at h
    by_cases e : p.1 = k
    · rw [if_pos e] at h
      cases h
      subst e
      exact List.mem_cons_self ..
    · rw [if_neg e] at h
      exact List.mem_cons_of_mem _ (look_mem h)
theorem kdLook_some {kn : List (Str × Option D)} {x : D} {st st' : S} {r : Option D} (h : kdLook kn x st = some (r, st')) : ∃ z, x = .str z ∧ (z, r) ∈ kn ∧ st' = st := by
  unfold kdLook at h
  cases x with
  | str z =>
    dsimp only at h
    cases q : look kn z with
    | none => rw [q] at h; cases h
    | some w => rw [q] at h; cases h; exact ⟨z, rfl, look_mem q, rfl⟩
  | _ => cases h
variable {a : Expr} {ma : Es → M D} {x : Str} {pos p : Pos} {d : Addr} {es0 : Array DictEntry} {n0 : Nat} {kn : List (Str × Option D)}
theorem kdIn_of {K : PySem.W.Frag} (hk : Kd K d kn) {σ : L2.St} {H : Hp} {Q : VK} (h : eM T K (kdIn kn ma) σ H Q) : tOp (fun x y H Q => ∃ (z : Str) (r : Option Value), x = .str z ∧ y = .ref d ∧ PySem.W.nsIn K d z = some r ∧ Q (.bl r.isSome) H) (eM T K ma) (tC (.ref d)) σ H Q := by
  obtain ⟨ρ, st, es, d1, st', R, Er, hr, k⟩ := h
  obtain ⟨y, s1, h1, h2⟩ := bind_some hr
  obtain ⟨r, s2, h3, h4⟩ := bind_some h2
  obtain ⟨z, rfl, hz, rfl⟩ := kdLook_some h3
  obtain ⟨rfl, rfl⟩ := pure_some h4
  refine ⟨ρ, st, es, _, _, R, Er, h1, fun ρ1 v1 H1 e1 R1 d2 => ?_⟩
  have q := hk _ hz
  cases r with
  | none => exact ⟨z, none, d2.str, rfl, q, k ρ1 _ H1 e1 R1 dr_bl⟩
  | some e => obtain ⟨u, v, q1, q2, q3⟩ := q; exact ⟨z, some u, d2.str, rfl, q1, k ρ1 _ H1 e1 R1 dr_bl⟩
theorem kdNin_of {K : PySem.W.Frag} (hk : Kd K d kn) {σ : L2.St} {H : Hp} {Q : VK} (h : eM T K (kdNin kn ma) σ H Q) : tOp (fun x y H Q => ∃ (z : Str) (r : Option Value), x = .str z ∧ y = .ref d ∧ PySem.W.nsIn K d z = some r ∧ Q (.bl (!r.isSome)) H) (eM T K ma) (tC (.ref d)) σ H Q := by
  obtain ⟨ρ, st, es, d1, st', R, Er, hr, k⟩ := h
  obtain ⟨y, s1, h1, h2⟩ := bind_some hr
  obtain ⟨r, s2, h3, h4⟩ := bind_some h2
  obtain ⟨z, rfl, hz, rfl⟩ := kdLook_some h3
  obtain ⟨rfl, rfl⟩ := pure_some h4
  refine ⟨ρ, st, es, _, _, R, Er, h1, fun ρ1 v1 H1 e1 R1 d2 => ?_⟩
  have q := hk _ hz
  cases r with
  | none => exact ⟨z, none, d2.str, rfl, q, k ρ1 _ H1 e1 R1 dr_bl⟩
  | some e => obtain ⟨u, v, q1, q2, q3⟩ := q; exact ⟨z, some u, d2.str, rfl, q1, k ρ1 _ H1 e1 R1 dr_bl⟩
theorem mkdIn (D0 : KDict X.K X.w d es0 n0) (hk : Kd X.K d kn) (hg : Gl X x) (hm : X.mg x = some (.ref d)) (ha : PE X a (eM T X.K ma)) (hdb : (x == ("__debug__" : Str)) = false := by decide) (hb : behindInMarks .In (.Name x p) = false := by with_unfolding_all rfl) :
    PE X (.Compare a [.In] [.Name x p] pos) (eM T X.K (kdIn kn ma)) := PE.as (pe_cmpR (op_in_kd D0) ha (pe_glob (v := .ref d) hg hm rfl hdb) hb) fun _ _ _ h => kdIn_of hk h
theorem mkdNin (D0 : KDict X.K X.w d es0 n0) (hk : Kd X.K d kn) (hg : Gl X x) (hm : X.mg x = some (.ref d)) (ha : PE X a (eM T X.K ma)) (hdb : (x == ("__debug__" : Str)) = false := by decide) (hb : behindInMarks .NotIn (.Name x p) = false := by with_unfolding_all rfl) :
    PE X (.Compare a [.NotIn] [.Name x p] pos) (eM T X.K (kdNin kn ma)) := PE.as (pe_cmpR (op_notIn_kd D0) ha (pe_glob (v := .ref d) hg hm rfl hdb) hb) fun _ _ _ h => kdNin_of hk h
theorem mtkdIn (D0 : KDict X.K X.w d es0 n0) (hk : Kd X.K d kn) (hg : Gl X x) (hm : X.mg x = some (.ref d)) (ha : PE X a (eM T X.K ma)) (hdb : (x == ("__debug__" : Str)) = false := by decide) (hb : behindInMarks .In (.Name x p) = false := by with_unfolding_all rfl) :
    PT X (.Compare a [.In] [.Name x p] pos) (tM T X.K (tstD (kdIn kn ma))) := PT.as (pt_cmpR (op_in_kd D0) ha (pe_glob (v := .ref d) hg hm rfl hdb) hb) fun _ _ _ h => kdIn_of hk (tst_of h)
theorem mtkdNin (D0 : KDict X.K X.w d es0 n0) (hk : Kd X.K d kn) (hg : Gl X x) (hm : X.mg x = some (.ref d)) (ha : PE X a (eM T X.K ma)) (hdb : (x == ("__debug__" : Str)) = false := by decide) (hb : behindInMarks .NotIn (.Name x p) = false := by with_unfolding_all rfl) :
    PT X (.Compare a [.NotIn] [.Name x p] pos) (tM T X.K (tstD (kdNin kn ma))) := PT.as (pt_cmpR (op_notIn_kd D0) ha (pe_glob (v := .ref d) hg hm rfl hdb) hb) fun _ _ _ h => kdNin_of hk (tst_of h)
theorem mkdIx (D0 : KDict X.K X.w d es0 n0) (hk : Kd X.K d kn) (hg : Gl X x) (hm : X.mg x = some (.ref d)) (ha : PE X a (eM T X.K ma)) (hdb : (x == ("__debug__" : Str)) = false := by decide) (hs : PlainIx a := by intro _ _; rfl) :
    PE X (.Subscript (.Name x p) a pos) (eM T X.K (kdIx kn ma)) :=
  PE.as (pe_ix ix_kdict (pe_glob (v := .ref d) hg hm rfl hdb) ha hs) fun σ H Q h => by
    obtain ⟨ρ, st, es, d1, st', R, Er, hr, k⟩ := h
    obtain ⟨y, s1, h1, h2⟩ := bind_some hr
    obtain ⟨r, s2, h3, h4⟩ := bind_some h2
    obtain ⟨z, rfl, hz, rfl⟩ := kdLook_some h3
    refine ⟨ρ, st, es, _, _, R, Er, h1, fun ρ1 v1 H1 e1 R1 d2 => ?_⟩
    have q := hk _ hz
    cases r with
    | none => cases h4
    | some e =>
      obtain ⟨rfl, rfl⟩ := pure_some h4
      obtain ⟨u, v, q1, q2, q3⟩ := q
      exact ⟨d, z, v, rfl, d2.str, ⟨es0, n0, u, D0.at_, D0.lit, q1, q2⟩, k ρ1 _ H1 e1 R1 (q3 _ _)⟩
end
end Mx
namespace Mx
open PySem PySem.Spec L2
theorem Rm.u1 {k : Nat} {A : Around} (h : Rm k A) : A.units + 1 < cLine := by have := h.r.un; omega
theorem Rm.u64 {k : Nat} {A : Around} (h : Rm k A) : A.units + 64 < cLine := by have := h.r.un; omega
theorem Rm.u65 {k : Nat} {A : Around} (h : Rm k A) : A.units + 65 < cLine := by have := h.r.un; omega
theorem Rm.u70 {k : Nat} {A : Around} (h : Rm k A) : A.units + 70 < cLine := by have := h.r.un; omega
theorem Rm.two {k : Nat} {A : Around} (h : Rm (k + 2) A) : Rm 2 A := h.mono (Nat.le_add_left _ _)
theorem bt_len : bootBuiltins "len" = some (.builtin "len") := by decide +kernel
theorem bt_isinstance : bootBuiltins "isinstance" = some (.builtin "isinstance") := by decide +kernel
theorem bt_all : bootBuiltins "all" = some (.builtin "all") := by decide +kernel
theorem bt_any : bootBuiltins "any" = some (.builtin "any") := by decide +kernel
theorem bt_abs : bootBuiltins "abs" = some (.builtin "abs") := by decide +kernel
theorem bt_max : bootBuiltins "max" = some (.builtin "max") := by decide +kernel
theorem bt_min : bootBuiltins "min" = some (.builtin "min") := by decide +kernel
theorem bt_repr : bootBuiltins "repr" = some (.builtin "repr") := by decide +kernel
theorem bt_tuple : bootBuiltins "tuple" = some (.type "tuple") := by decide +kernel
theorem bt_list : bootBuiltins "list" = some (.type "list") := by decide +kernel
theorem bt_int : bootBuiltins "int" = some (.type "int") := by decide +kernel
theorem bt_str : bootBuiltins "str" = some (.type "str") := by decide +kernel
theorem bt_dict : bootBuiltins "dict" = some (.type "dict") := by decide +kernel
end Mx


/-! Mx16: the end of a law. -/
namespace Mx
open PySem PySem.Spec L2

/-- no store yet, the script is a list that nobody writes -/
theorem rel_start {T : List (Addr × Str)} {K : PySem.W.Frag} {H : Hp} (t : LamX.Tabs T H) : Rel T K [] H [] := ⟨t, rfl, .nil, fun i a o h _ => by simp at h⟩
/-- the law's def, asked at the head's heap -/
theorem ask_law {P : Program} {w : World} {K : PySem.W.Frag} {mg mb : Str → Option Value} {k : Nat} {fa a : Addr} {cs : List (Addr × Addr × Str)} {fd : FuncData} {x : Str} {g : List D → M D} {s1 : Shared} {vs : List Value} {ns : List Int}
    (inK : K.In s1.heap) (nsG : s1.heap.Ns mainGlobals mg) (nsB : s1.heap.Ns builtinsNs mb) (boot : ∀ x : Str, x ≠ "__name__" → mb x = bootBuiltins x) (nolim : s1.heap.NoLimit) (nogen : s1.gens = #[])
    (empties : ∀ p ∈ cs, s1.heap.get? p.2.1 = some { cls := .none, data := .fields #[] }) (unk : ∀ p ∈ cs, K.lookup p.2.1 = none) (codes : ∀ p ∈ cs, PySem.W.CodeHd s1.heap p.1 p.2.1)
    (bmain : ∃ (bm : Addr) (ob : Obj), mg "__builtins__" = some (.ref bm) ∧ bm ≠ builtinsNs ∧ s1.heap.get? bm = some ob ∧ ob.cls = .type "module" ∧ ob.dict = some builtinsNs ∧ ob.data = .plain)
    (obj : s1.heap.get? a = some { cls := .type "list", data := .seq vs.toArray }) (iv : PyProof.Rows.IntsAre vs ns) (fits : ns.length ≤ sizeLine) (rm : Rm k callerA)
    (F : ∀ base : Heap, K.In base → base.Ns mainGlobals mg → (∀ p ∈ cs, LamX.TabB base mg p.1 p.2.1) → FnM (cs.map fun p => p.2) P w K mg base k fa fd [x] g) (bind : ∀ (s : Shared) (u : Value), BindsTo s fd ⟨[u], []⟩ [(x, u)])
    {st : S} (run : g [.rol (ns.map .int)] [] = some (.bl true, st)) :
    codeAny (model P w) callerA (.call (.ref fa) ⟨[.ref a], []⟩) (fun r s' => r = .ok (.ret (.bool true)) ∧ OldK s1.heap s'.heap ∧ s'.os = s1.os ∧ PyProof.Rows.AllBare s'.gens) s1 := by
  have rv := vals_ints iv
  have lv := iv.length
  have tabAt : ∀ b : Addr, b ∈ cs.map (fun p => p.2.1) → s1.heap.get? b = some { cls := .none, data := .fields #[] } := fun b hb => by
    obtain ⟨p, hp, e⟩ := List.mem_map.mp hb
    subst e
    exact empties p hp
  have aOut : a ∉ cs.map (fun p => p.2.1) := fun z => by
    have q := tabAt a z
    rw [obj] at q
    cases (congrArg Obj.data (Option.some.inj q) : Data.seq vs.toArray _ = Data.fields #[])
  have inT : ∀ p ∈ cs, p.2.1 ∈ cs.map (fun p => p.2.1) := fun p hp => List.mem_map.mpr ⟨p, hp, rfl⟩
  have main : ∀ H : Hp, (∀ p ∈ cs, H p.2.1 = some (.tbl #[])) → (∀ b, H b = none ∨ b ∈ cs.map (fun p => p.2.1) ∨ ∃ o xs, H b = some (.frz o (.lst xs))) → RoL K H a (ns.map V.int) → HOk P w H s1.heap → (∀ b, H b ≠ none → b = a ∨ b ∈ cs.map (fun p => p.2.1)) → (H a ≠ none → K.lookup a = none) →
      codeAny (model P w) callerA (.call (.ref fa) ⟨[.ref a], []⟩) (fun r s' => r = .ok (.ret (.bool true)) ∧ OldK s1.heap s'.heap ∧ s'.os = s1.os ∧ PyProof.Rows.AllBare s'.gens) s1 := by
    intro H hT hO hS ok dom unkA
    have kept : ∀ {b : Addr} {o : Obj}, s1.heap.get? b = some o → H b = none → (hidT s1.heap H).get? b = some o := fun e n => hidT_get e n
    have clear : ∀ {b : Addr} {o : Obj}, s1.heap.get? b = some o → (∀ us n, o.data ≠ .seq us n) → o.data ≠ .fields #[] → H b = none := fun {b o} e q1 q2 => by
      cases z : H b with
      | none => rfl
      | some u =>
        rcases dom b (by rw [z]; exact fun y => nomatch y) with y | y
        · subst y
          rw [obj] at e
          cases e
          exact absurd rfl (q1 _ _)
        · rw [tabAt b y] at e
          cases e
          exact absurd rfl q2
    have clearD : ∀ {b : Addr} {o : Obj} {es : Array DictEntry} {ep : Nat}, s1.heap.get? b = some o → o.data = .dict es ep → H b = none := fun {b o es ep} e d =>
      clear e (fun us n z => by rw [d] at z; cases z) fun z => by rw [d] at z; cases z
    have names : ∀ {b : Addr} {m : Str → Option Value}, s1.heap.Ns b m → (hidT s1.heap H).Ns b m := fun {b m} ⟨o, es, ep, e, d, r⟩ => ⟨o, es, ep, kept e (clearD e d), d, r⟩
    have inBase : K.In (hidT s1.heap H) := fun b o e => kept (inK b o e) (by
      cases z : H b with
      | none => rfl
      | some u =>
        rcases dom b (by rw [z]; exact fun y => nomatch y) with y | y
        · subst y
          rw [unkA (by rw [z]; exact fun y => nomatch y)] at e
          cases e
        · obtain ⟨p, hp, ep⟩ := List.mem_map.mp y
          subst ep
          rw [unk p hp] at e
          cases e)
    have md : L2.Mod K mg (hidT s1.heap H) := ⟨inBase, names nsG, ⟨mb, names nsB, boot⟩, let ⟨mc, q1, q2⟩ := nolim; ⟨mc, names q1, q2⟩⟩
    have tb : ∀ p ∈ cs, LamX.TabB (hidT s1.heap H) mg p.1 p.2.1 := fun p hp => by
      have tp := empties p hp
      have notG : ∀ {b : Addr} {ob : Obj}, s1.heap.get? b = some ob → (∀ es ep, ob.data ≠ .dict es ep) → b ≠ mainGlobals := fun {b ob} e n z => by
        obtain ⟨o, es, ep, e2, hd, _⟩ := nsG
        subst z
        rw [e2] at e
        cases e
        exact n es ep hd
      refine ⟨?_, ?_, fun y => notG tp (fun es ep z => by cases z) y.symm⟩
      · obtain ⟨o, us, file, tf, flags, tg, inF, text, tt, e1, r1, r2, r3, r4, r5, r6, r7, r8, r9⟩ := codes p hp
        exact ⟨o, us, file, tf, flags, tg, inF, text, tt, kept e1 (clear e1 (fun ws n z => by rw [r2] at z; cases z) fun z => by
          rw [r2] at z
          cases z
          simp at r3), r1, r2, r3, r4, r5, r6, r7, r8, r9⟩
      · obtain ⟨bm, ob, b1, b2, b3, b4, b5, b6⟩ := bmain
        have bp : bm ≠ p.2.1 := fun z => by
          subst z
          rw [tp] at b3
          cases b3
          cases b6
        exact ⟨bm, ob, b1, b2, notG b3 (fun es ep z => by rw [b6] at z; cases z), bp, kept b3 (clear b3 (fun ws n z => by rw [b6] at z; cases z) fun z => by rw [b6] at z; cases z), b4, b5, b6⟩
    have env : Env0 P w K mg (hidT s1.heap H) callerA [] s1 H := ⟨rfl, md, fun b o e => of_hidT e, Nat.le_of_eq (hidT_size _ _), trivial, fun b hb => absurd hb (List.not_mem_nil (a := b)), ok, .of_eq nogen⟩
    have tabs : LamX.Tabs (cs.map fun p => p.2) H := fun q hq => by
      obtain ⟨p, hp, e⟩ := List.mem_map.mp hq
      subst e
      exact LamX.TabS.nil (hT p hp)
    have ask : rnM (cs.map fun p => p.2) K g [V.ref a] H (fun v _ => v = .bl true) :=
      ⟨[], [], [.rol (ns.map .int)], .bl true, st, rel_start tabs, DRs.cons (by rw [DR]; exact ⟨a, _, rfl, hS, drs_ints ns⟩) DRs.nil, run, fun ρ' v H' _ _ d => d.bl⟩
    refine codeAny_mono ((F _ inBase (names nsG) tb).go callerA [] s1 H ⟨[.ref a], []⟩ [.ref a] [.ref a] _ rm env (bind s1 (.ref a)) (.cons rfl .nil) ask) fun r s' h => ?_
    cases r with
    | error e => exact h.elim
    | ok fl =>
      cases fl with
      | ret u =>
        obtain ⟨v, H', os, bare, un, ok', rel, ev⟩ := h
        have ev' : v = .bl true := ev
        subst ev'
        obtain rfl : u = Value.bool true := rel
        have still : ∀ b o, b ∉ cs.map (fun p => p.2.1) → s1.heap.get? b = some o → s'.heap.get? b = some o := fun b o nb e => by
          rcases hO b with z | z | ⟨ob, xs, z⟩
          · exact un.keep b o e z (List.not_mem_nil (a := b)) (List.not_mem_nil (a := b))
          · exact absurd z nb
          · have z2 := un.frzs b ob _ z
            have g1 := (ok b _ z).1
            have g2 := (ok' b _ z2).1
            rw [e] at g1
            cases g1
            exact g2
        have more : ∀ p ∈ cs, ∃ us : Array Value, s'.heap.get? p.2.1 = some { cls := .none, data := .fields us } := fun p hp => by
          obtain ⟨us, z⟩ := un.tbls p.2.1 #[] (hT p hp)
          exact ⟨_, ok' p.2.1 _ z⟩
        refine ⟨rfl, ⟨fun b o e => ?_, fun b o e => ?_⟩, os, bare⟩
        · by_cases hb : b ∈ cs.map (fun p => p.2.1)
          · obtain ⟨p, hp, ep⟩ := List.mem_map.mp hb
            obtain ⟨us, hu⟩ := more p hp
            subst ep
            rw [empties p hp] at e
            cases e
            exact .inr (.inl ⟨((codes p hp).tab (empties p hp)).isCodeTable, rfl, #[], us, rfl, by rw [Array.empty_append]; exact hu⟩)
          · exact .inl (still b o hb e)
        · by_cases hb : b ∈ cs.map (fun p => p.2.1)
          · obtain ⟨p, hp, ep⟩ := List.mem_map.mp hb
            obtain ⟨us, hu⟩ := more p hp
            subst ep
            exact ⟨_, hu⟩
          · exact ⟨o, still b o hb e⟩
      | _ => exact h.elim
  by_cases known : ∃ o, K.lookup a = some o
  · obtain ⟨o, hk⟩ := known
    have e := inK a o hk
    rw [obj] at e
    cases e
    have off : ∀ b, b ∉ cs.map (fun p => p.2.1) → (if b ∈ cs.map (fun p => p.2.1) then some (HO.tbl #[]) else none) = none := fun b hb => if_neg hb
    refine main (fun b => if b ∈ cs.map (fun p => p.2.1) then some (.tbl #[]) else none) (fun p hp => if_pos (inT p hp)) (fun b => ?_) (.inr ⟨_, vs.toArray, _, hk, rfl, rfl, rfl, by rw [List.size_toArray, lv]; exact fits, by simpa using rv⟩) (fun b u z => ?_) (fun b z => ?_) fun z => absurd (off a aOut) z
    · by_cases hb : b ∈ cs.map (fun p => p.2.1)
      · exact .inr (.inl hb)
      · exact .inl (off b hb)
    · by_cases hb : b ∈ cs.map (fun p => p.2.1)
      · cases (if_pos hb).symm.trans z
        exact tabAt b hb
      · cases (off b hb).symm.trans z
    · by_cases hb : b ∈ cs.map (fun p => p.2.1)
      · exact .inr hb
      · exact absurd (off b hb) z
  · have hk : K.lookup a = none := by
      cases z : K.lookup a with
      | none => rfl
      | some o => exact absurd ⟨o, z⟩ known
    have off : ∀ b, b ≠ a → b ∉ cs.map (fun p => p.2.1) → (if b = a then some (HO.frz { cls := .type "list", data := .seq vs.toArray } (.lst (ns.map V.int))) else if b ∈ cs.map (fun p => p.2.1) then some (.tbl #[]) else none) = none := fun b n1 n2 => (if_neg n1).trans (if_neg n2)
    have onT : ∀ b, b ∈ cs.map (fun p => p.2.1) → (if b = a then some (HO.frz { cls := .type "list", data := .seq vs.toArray } (.lst (ns.map V.int))) else if b ∈ cs.map (fun p => p.2.1) then some (.tbl #[]) else none) = some (.tbl #[]) := fun b hb => (if_neg (show ¬ b = a from fun z => aOut (z ▸ hb))).trans (if_pos hb)
    refine main (fun b => if b = a then some (.frz { cls := .type "list", data := .seq vs.toArray } (.lst (ns.map V.int))) else if b ∈ cs.map (fun p => p.2.1) then some (.tbl #[]) else none) (fun p hp => onT _ (inT p hp)) (fun b => ?_) (.inl ⟨_, if_pos rfl⟩) (fun b u z => ?_) (fun b z => ?_) fun _ => hk
    · by_cases e1 : b = a
      · exact .inr (.inr ⟨_, _, if_pos e1⟩)
      · by_cases e2 : b ∈ cs.map (fun p => p.2.1)
        · exact .inr (.inl e2)
        · exact .inl (off b e1 e2)
    · by_cases e1 : b = a
      · cases (if_pos e1).symm.trans z
        subst e1
        exact ⟨obj, by rw [List.length_map]; exact fits, vs, _, rv, obj⟩
      · by_cases e2 : b ∈ cs.map (fun p => p.2.1)
        · cases (onT b e2).symm.trans z
          exact tabAt b e2
        · cases (off b e1 e2).symm.trans z
    · by_cases e1 : b = a
      · exact .inl e1
      · by_cases e2 : b ∈ cs.map (fun p => p.2.1)
        · exact .inr e2
        · exact absurd (off b e1 e2) z
/-- the goal that the head leaves -/
theorem walk_M {l : PySem.W.OpenLaw} {n k : Nat} {q : Program} {loose : List Str} {XP : (Str → Option Value) → Heap → Prop} {YP : World → Heap → Prop} {d : DefRec} {K : Params → PySem.W.Frag} {x : Str} {g : List D → M D}
    (hn : l.most = some n) (hz : n ≤ sizeLine) (hdf : d.params.defaults = []) (rm : Rm k callerA) (inY : ∀ (w : World) (h : Heap), YP w h → (K w.params).In h)
    (F : ∀ (w : World) (mg : Str → Option Value) (fa : Addr) (h : Heap), YP w h → (K w.params).In h → h.Ns mainGlobals mg → mg d.name = some (.ref fa) →
      (∀ (x : Str) (e : DefRec) (c P : Addr), (PyProof.Rows.recsOf q).find? (fun e => e.name == x) = some e → PySem.W.tabIn (K w.params) x = some (c, P) → PySem.W.CodeHd h c P ∧ h.get? P = some { cls := .none, data := .fields #[] }) →
      ∃ (fd : FuncData) (cs : List (Addr × Addr × Str)), (∀ p ∈ cs, h.get? p.2.1 = some { cls := .none, data := .fields #[] }) ∧ (∀ p ∈ cs, (K w.params).lookup p.2.1 = none) ∧ (∀ p ∈ cs, PySem.W.CodeHd h p.1 p.2.1) ∧ (∀ (s : Shared) (u : Value), BindsTo s fd ⟨[u], []⟩ [(x, u)]) ∧
        ∀ base : Heap, (K w.params).In base → base.Ns mainGlobals mg → (∀ p ∈ cs, LamX.TabB base mg p.1 p.2.1) → FnM (cs.map fun p => p.2) l.prog w (K w.params) mg base k fa fd [x] g)
    (run : ∀ ns : List Int, ns.length ≤ n → (∀ z ∈ ns, Builtin.Int.intBits z ≤ 1048576) → ∃ st, g [.rol (ns.map .int)] [] = some (.bl true, st)) :
    PySem.W.WalkO q loose XP YP l.row.toRowW d [] (fun f vs => PySem.call f vs) := by
  refine Att.attach_callB hn hdf fun w s0 s1 mg mb fa o pm cd doc a vs ns G Y ho hd hcd hmg hobj hints hlen hbits hg => ?_
  have inK := inY w _ Y
  obtain ⟨fd, cs, h1, h2, h3, h4, h5⟩ := F w mg fa _ Y inK G.T.g hmg fun x e c P h1 h2 => PySem.W.tab_of G.T inK h1 h2
  obtain ⟨st, hrun⟩ := run ns hlen hbits
  exact ask_law inK G.T.g G.T.b G.T.builtins G.T.nolimit hg h1 h2 h3 G.T.bmain hobj hints (Nat.le_trans hlen hz) rm h5 h4 hrun
end Mx


/-! Mx17: what an M-program surely reaches. -/
namespace Mx
open PySem PySem.Spec L2

/-- a mark beside what follows, so that it is left alone while a program is run -/
inductive Tg {α : Type} (st : S) (Q : α → S → Prop) : Type where
  | mk
/-- m ends from st, and so that Q -/
def Rn {α : Type} (m : M α) (st : S) (Q : α → S → Prop) (u : Tg st Q := Tg.mk) : Prop := match m st with
  | some (a, s) => Q a s
  | none => False
theorem Rn_q {α : Type} {m : M α} {st : S} {Q Q' : α → S → Prop} (h : Q = Q') : Rn m st Q = Rn m st Q' := by subst h; rfl
section
variable {α β : Type} {st : S}
theorem run_some {m : M α} {a : α} {s : S} {Q : α → S → Prop} (h : m st = some (a, s)) : Rn m st Q = Q a s := by unfold Rn; rw [h]
theorem Rn.get {m : M α} {Q : α → S → Prop} (h : Rn m st Q) : ∃ a s, m st = some (a, s) ∧ Q a s := by
  unfold Rn at h
  split at h
  · exact ⟨_, _, by assumption, h⟩
  · exact h.elim
theorem Rn.mono {m : M α} {Q Q' : α → S → Prop} (h : Rn m st Q) (i : ∀ a s, Q a s → Q' a s) : Rn m st Q' := by
  obtain ⟨a, s, e, q⟩ := h.get
  rw [run_some e]
  exact i a s q
@[simp] theorem run_pure {a : α} {Q : α → S → Prop} : Rn (pure a : M α) st Q = Q a st := rfl
@[simp] theorem run_bind {m : M α} {f : α → M β} {Q : β → S → Prop} : Rn (m >>= f) st Q = Rn m st fun a s => Rn (f a) s Q := by
  unfold Rn
  show (match (match m st with | none => none | some (a, s1) => f a s1) with | some (a, s) => Q a s | none => False) = _
  cases m st with
  | none => rfl
  | some p => rfl
@[simp] theorem run_fail {Q : α → S → Prop} : Rn (fail : M α) st Q = False := rfl
@[simp] theorem run_guard {c : Bool} {Q : Unit → S → Prop} : Rn (guardM c) st Q = (c = true ∧ Q () st) := by
  cases c
  · show False = _
    simp
  · show Q () st = _
    simp
@[simp] theorem run_ite {c : Bool} {a b : M α} {Q : α → S → Prop} : Rn (if c = true then a else b) st Q = if c = true then Rn a st Q else Rn b st Q := by cases c <;> rfl
/-! ### expressions -/
variable {es : Es} {Q : D → S → Prop} {QB : Bool → S → Prop} {QL : List D → S → Prop} {QS : Es × Fl → S → Prop}
@[simp] theorem run_var {i : Nat} : Rn (varD i es) st Q = match es[i]? with
    | some (some d) => Q d st
    | _ => False := by
  unfold Rn varD
  cases es[i]? with
  | none => rfl
  | some o => cases o <;> rfl
@[simp] theorem run_c {d : D} : Rn (cD d es) st Q = Q d st := rfl
@[simp] theorem run_op {g : D → D → M D} {a b : Es → M D} : Rn (opD g a b es) st Q = Rn (a es) st fun x s => Rn (b es) s fun y s2 => Rn (g x y) s2 Q := by
  unfold opD
  rw [run_bind]
  repeat (first | rfl | rw [run_bind] | simp only [run_guard, run_new, run_pure, decide_eq_true_eq] | refine Rn_q (funext fun _ => funext fun _ => ?_))
@[simp] theorem run_un {g : D → M D} {a : Es → M D} : Rn (unD g a es) st Q = Rn (a es) st fun x s => Rn (g x) s Q := by unfold unD; rw [run_bind]
@[simp] theorem run_bOf {d : D} : Rn (bOf d) st QB = match d with
    | .bl b => QB b st
    | _ => False := by cases d <;> rfl
@[simp] theorem run_and {a b : Es → M D} : Rn (andD a b es) st Q = Rn (a es) st fun x s => match x with
    | .bl true => Rn (b es) s Q
    | .bl false => Q (.bl false) s
    | _ => False := by
  unfold andD
  rw [run_bind]
  refine Rn_q (funext fun x => funext fun s => ?_)
  cases x with
  | bl q => cases q <;> rfl
  | _ => rfl
@[simp] theorem run_or {a b : Es → M D} : Rn (orD a b es) st Q = Rn (a es) st fun x s => match x with
    | .bl true => Q (.bl true) s
    | .bl false => Rn (b es) s Q
    | _ => False := by
  unfold orD
  rw [run_bind]
  refine Rn_q (funext fun x => funext fun s => ?_)
  cases x with
  | bl q => cases q <;> rfl
  | _ => rfl
@[simp] theorem run_not {a : Es → M D} : Rn (notD a es) st Q = Rn (a es) st fun x s => match x with
    | .bl b => Q (.bl (!b)) s
    | _ => False := by
  unfold notD
  rw [run_bind]
  refine Rn_q (funext fun x => funext fun s => ?_)
  cases x <;> rfl
@[simp] theorem run_tst {a : Es → M D} : Rn (tstD a es) st QB = Rn (a es) st fun x s => match x with
    | .bl b => QB b s
    | _ => False := by
  unfold tstD
  rw [run_bind]
  refine Rn_q (funext fun x => funext fun s => ?_)
  cases x <;> rfl
@[simp] theorem run_andT {a b : Es → M Bool} : Rn (andT a b es) st QB = Rn (a es) st fun x s => if x = true then Rn (b es) s QB else QB false s := by
  unfold andT
  rw [run_bind]
  refine Rn_q (funext fun x => funext fun s => ?_)
  cases x <;> rfl
@[simp] theorem run_orT {a b : Es → M Bool} : Rn (orT a b es) st QB = Rn (a es) st fun x s => if x = true then QB true s else Rn (b es) s QB := by
  unfold orT
  rw [run_bind]
  refine Rn_q (funext fun x => funext fun s => ?_)
  cases x <;> rfl
@[simp] theorem run_notT {a : Es → M Bool} : Rn (notT a es) st QB = Rn (a es) st fun x s => QB (!x) s := by unfold notT; rw [run_bind]; rfl
@[simp] theorem run_if {t : Es → M Bool} {a b : Es → M α} {QA : α → S → Prop} : Rn (ifD t a b es) st QA = Rn (t es) st fun x s => if x = true then Rn (a es) s QA else Rn (b es) s QA := by
  unfold ifD
  rw [run_bind]
  refine Rn_q (funext fun x => funext fun s => ?_)
  cases x <;> rfl
@[simp] theorem run_nilA : Rn (nilA es) st QL = QL [] st := rfl
@[simp] theorem run_consA {a : Es → M D} {r : Es → M (List D)} : Rn (consA a r es) st QL = Rn (a es) st fun x s => Rn (r es) s fun xs s2 => QL (x :: xs) s2 := by
  unfold consA
  rw [run_bind]
  repeat (first | rfl | rw [run_bind] | simp only [run_guard, run_new, run_pure, decide_eq_true_eq] | refine Rn_q (funext fun _ => funext fun _ => ?_))
@[simp] theorem run_tup {a : Es → M (List D)} : Rn (tupD a es) st Q = Rn (a es) st fun xs s => xs.length ≤ sizeLine ∧ Q (.tup xs) s := by
  unfold tupD
  rw [run_bind]
  refine Rn_q (funext fun xs => funext fun s => ?_)
  rw [run_bind, run_guard, decide_eq_true_eq]
  rfl
@[simp] theorem run_new {o : O} : Rn (new o) st Q = Q (.ref st.length) (st ++ [o]) := rfl
@[simp] theorem run_lst {a : Es → M (List D)} : Rn (lstD a es) st Q = Rn (a es) st fun xs s => xs.length ≤ sizeLine ∧ Q (.ref s.length) (s ++ [.lst xs]) := by
  unfold lstD
  rw [run_bind]
  repeat (first | rfl | rw [run_bind] | simp only [run_guard, run_new, run_pure, decide_eq_true_eq] | refine Rn_q (funext fun _ => funext fun _ => ?_))
@[simp] theorem run_call {g : List D → M D} {a : Es → M (List D)} : Rn (callD g a es) st Q = Rn (a es) st fun xs s => Rn (g xs) s Q := by unfold callD; rw [run_bind]
@[simp] theorem run_callK {g : List D → M D} {w : List D → List D} {a : Es → M (List D)} : Rn (callKD g w a es) st Q = Rn (a es) st fun xs s => Rn (g (w xs)) s Q := by unfold callKD; rw [run_bind]
@[simp] theorem run_lm {g : D → List D → M D} {o : Es → M D} {a : Es → M (List D)} : Rn (lmD g o a es) st Q = Rn (o es) st fun x s => Rn (isLst x) s fun _ s2 => Rn (a es) s2 fun xs s3 => Rn (g x xs) s3 Q := by
  unfold lmD
  repeat (first | rfl | rw [run_bind] | simp only [run_guard, run_new, run_pure, decide_eq_true_eq] | refine Rn_q (funext fun _ => funext fun _ => ?_))
@[simp] theorem run_sli {a : Es → M D} {lo hi : Pt} : Rn (sliD a lo hi es) st Q = Rn (a es) st fun x s => Rn (lo.run es) s fun l s2 => Rn (hi.run es) s2 fun u s3 => Rn (slD x l u) s3 Q := by
  unfold sliD
  repeat (first | rfl | rw [run_bind] | simp only [run_guard, run_new, run_pure, decide_eq_true_eq] | refine Rn_q (funext fun _ => funext fun _ => ?_))
@[simp] theorem run_ptno {QO : Option Int → S → Prop} : Rn (Pt.no.run es) st QO = QO none st := rfl
@[simp] theorem run_ptat {m : Es → M D} {QO : Option Int → S → Prop} : Rn ((Pt.at m).run es) st QO = Rn (m es) st fun x s => match x with
    | .int i => QO (some i) s
    | _ => False := by
  show Rn ((m es) >>= _) st QO = _
  rw [run_bind]
  refine Rn_q (funext fun x => funext fun s => ?_)
  cases x <;> rfl
/-! ### statements -/
@[simp] theorem run_nx : Rn (nxS es) st QS = QS (es, .nx) st := rfl
@[simp] theorem run_ct : Rn (ctS es) st QS = QS (es, .ct) st := rfl
@[simp] theorem run_ret {a : Es → M D} : Rn (retS a es) st QS = Rn (a es) st fun x s => QS (es, .rt x) s := by unfold retS; rw [run_bind]; rfl
@[simp] theorem run_drop {a : Es → M D} : Rn (dropS a es) st QS = Rn (a es) st fun _ s => QS (es, .nx) s := by unfold dropS; rw [run_bind]; rfl
@[simp] theorem run_seq {a b : Es → M (Es × Fl)} : Rn (seqS a b es) st QS = Rn (a es) st fun p s => match p.2 with
    | .nx => Rn (b p.1) s QS
    | _ => QS p s := by
  unfold seqS
  rw [run_bind]
  refine Rn_q (funext fun p => funext fun s => ?_)
  obtain ⟨e, f⟩ := p
  cases f <;> rfl
@[simp] theorem run_asg {a : Es → M D} {g : D → Es → M Es} : Rn (asgS a g es) st QS = Rn (a es) st fun x s => Rn (g x es) s fun e s2 => QS (e, .nx) s2 := by
  unfold asgS
  repeat (first | rfl | rw [run_bind] | simp only [run_guard, run_new, run_pure, decide_eq_true_eq] | refine Rn_q (funext fun _ => funext fun _ => ?_))
@[simp] theorem run_name {i : Nat} {d : D} {QE : Es → S → Prop} : Rn (nameG i d es) st QE = QE (es.set i (some d)) st := rfl
@[simp] theorem run_nilG {QE : Es → S → Prop} : Rn (nilG [] es) st QE = QE es st := rfl
@[simp] theorem run_consG {d : D} {ds : List D} {g : D → Es → M Es} {r : List D → Es → M Es} {QE : Es → S → Prop} : Rn (consG g r (d :: ds) es) st QE = Rn (g d es) st fun e s => Rn (r ds e) s QE := by
  show Rn ((g d es) >>= _) st QE = _
  rw [run_bind]
@[simp] theorem run_tupG {n : Nat} {ds : List D} {g : List D → Es → M Es} {QE : Es → S → Prop} : Rn (tupG n g (.tup ds) es) st QE = (ds.length = n ∧ Rn (g ds es) st QE) := by
  show Rn ((guardM (decide (ds.length = n))) >>= _) st QE = _
  rw [run_bind, run_guard, decide_eq_true_eq]
@[simp] theorem run_par {i j : Nat} {a : Es → M (List D)} : Rn (parS i j a es) st QS = Rn (a es) st fun ds s => match ds with
    | [x, y] => QS ((es.set i (some x)).set j (some y), .nx) s
    | _ => False := by
  unfold parS
  rw [run_bind]
  refine Rn_q (funext fun ds => funext fun s => ?_)
  match ds with
  | [x, y] => rfl
  | [] => rfl
  | [_] => rfl
  | _ :: _ :: _ :: _ => rfl
@[simp] theorem run_aug {i : Nat} {me : Es → M D} {g : D → D → M D} : Rn (augS i me g es) st QS = Rn (varD i es) st fun x s => Rn (me es) s fun y s2 => Rn (g x y) s2 fun z s3 => QS (es.set i (some z), .nx) s3 := by
  unfold augS
  repeat (first | rfl | rw [run_bind] | simp only [run_guard, run_new, run_pure, decide_eq_true_eq] | refine Rn_q (funext fun _ => funext fun _ => ?_))
/-! ### defs -/
@[simp] theorem run_fn {np n : Nat} {b : Es → M (Es × Fl)} {as : List D} : Rn (fnD np n b as) st Q = (as.length = np ∧ Rn (b (as.map some ++ List.replicate (n - as.length) none)) st fun p s => match p.2 with
    | .rt d => Q d s
    | .nx => Q .non s
    | _ => False) := by
  unfold Rn fnD
  by_cases h : as.length = np
  · rw [if_pos h]
    have e : Rn (runB n b as) st Q = Rn (b (as.map some ++ List.replicate (n - as.length) none)) st fun p s => match p.2 with
      | .rt d => Q d s
      | .nx => Q .non s
      | _ => False := by
      unfold runB
      rw [run_bind]
      refine Rn_q (funext fun p => funext fun s => ?_)
      obtain ⟨e, f⟩ := p
      cases f <;> rfl
    unfold Rn at e
    rw [e]
    simp [h]
  · rw [if_neg h]
    simp [h]
/-! ### a loop, by an invariant -/
theorem run_for {s : Src} {g : D → Es → M Es} {b : Es → M (Es × Fl)} {ds : List D} (Inv : Nat → Es → S → Prop) (hat : ∀ i es st, Inv i es st → s.at st i = lapOf ds[i]?)
    (step : ∀ i d es st, ds[i]? = some d → Inv i es st → Rn (g d es) st fun e s2 => Rn (b e) s2 fun p s3 => match p.2 with
      | .nx => Inv (i + 1) p.1 s3
      | .ct => Inv (i + 1) p.1 s3
      | .bk => QS (p.1, .nx) s3
      | .rt d => QS (p.1, .rt d) s3)
    (fin : ∀ es st, Inv ds.length es st → QS (es, .nx) st) : ∀ (n i : Nat) (es : Es) (st : S), ds.length < n + i → i ≤ ds.length → Inv i es st → Rn (lapS s g b n i es) st QS
  | 0, i, es, st, hn, hi, _ => by omega
  | n + 1, i, es, st, hn, hi, hI => by
    have e := hat i es st hI
    unfold Rn lapS
    by_cases h : i < ds.length
    · have hd : ds[i]? = some ds[i] := List.getElem?_eq_getElem h
      rw [hd] at e
      rw [e]
      have q := step i ds[i] es st hd hI
      have q2 : Rn (do
        let es1 ← g ds[i] es
        let p ← b es1
        match p.2 with
          | .nx => lapS s g b n (i + 1) p.1
          | .ct => lapS s g b n (i + 1) p.1
          | .bk => pure (p.1, .nx)
          | .rt d => pure (p.1, .rt d)) st QS := by
        rw [run_bind]
        refine q.mono fun e1 s1 q1 => ?_
        rw [run_bind]
        refine q1.mono fun p s2 q3 => ?_
        obtain ⟨es2, f⟩ := p
        cases f with
        | nx => exact run_for Inv hat step fin n (i + 1) es2 s2 (by omega) h q3
        | ct => exact run_for Inv hat step fin n (i + 1) es2 s2 (by omega) h q3
        | bk => exact q3
        | rt d => exact q3
      exact q2
    · have hd : ds[i]? = none := List.getElem?_eq_none (by omega)
      have hie : i = ds.length := by omega
      rw [hd] at e
      rw [e]
      subst hie
      exact fin es st hI
@[simp] theorem run_forS {L : Nat} {src : Es → M Src} {g : D → Es → M Es} {b : Es → M (Es × Fl)} : Rn (forS L src g b es) st QS = Rn (src es) st fun s s1 => Rn (lapS s g b L 0 es) s1 QS := by unfold forS; rw [run_bind]
theorem run_lapC {s : Src} {g : D → Es → M Es} {t : Es → M Bool} {e : Es → M D} {es0 : Es} {ds : List D} (Inv : Nat → List D → S → Prop) (hat : ∀ i acc st, Inv i acc st → s.at st i = lapOf ds[i]?)
    (step : ∀ i d acc st, ds[i]? = some d → Inv i acc st → Rn (g d es0) st fun e1 s2 => Rn (t e1) s2 fun q s3 => if q = true then Rn (e e1) s3 fun y s4 => acc.length < sizeLine ∧ Inv (i + 1) (acc ++ [y]) s4 else Inv (i + 1) acc s3)
    (fin : ∀ acc st, Inv ds.length acc st → QL acc st) : ∀ (n i : Nat) (acc : List D) (st : S), ds.length < n + i → i ≤ ds.length → Inv i acc st → Rn (lapC s g t e es0 n i acc) st QL
  | 0, i, acc, st, hn, hi, _ => by omega
  | n + 1, i, acc, st, hn, hi, hI => by
    have ea := hat i acc st hI
    unfold Rn lapC
    by_cases h : i < ds.length
    · have hd : ds[i]? = some ds[i] := List.getElem?_eq_getElem h
      rw [hd] at ea
      rw [ea]
      have q2 : Rn (do
        let es1 ← g ds[i] es0
        let q ← t es1
        if q then do
          let y ← e es1
          guardM (decide (acc.length < sizeLine))
          lapC s g t e es0 n (i + 1) (acc ++ [y])
        else lapC s g t e es0 n (i + 1) acc) st QL := by
        rw [run_bind]
        refine (step i ds[i] acc st hd hI).mono fun e1 s1 q1 => ?_
        rw [run_bind]
        refine q1.mono fun q s2 q3 => ?_
        cases q with
        | false => exact run_lapC Inv hat step fin n (i + 1) acc s2 (by omega) h q3
        | true =>
          show Rn (e e1 >>= _) s2 QL
          rw [run_bind]
          refine Rn.mono q3 fun y s3 q4 => ?_
          rw [run_bind, run_guard, decide_eq_true_eq]
          exact ⟨q4.1, run_lapC Inv hat step fin n (i + 1) _ s3 (by omega) h q4.2⟩
      exact q2
    · have hd : ds[i]? = none := List.getElem?_eq_none (by omega)
      have hie : i = ds.length := by omega
      rw [hd] at ea
      rw [ea]
      subst hie
      exact fin acc st hI
@[simp] theorem run_lc {L : Nat} {vs : List Nat} {src : Es → M Src} {g : D → Es → M Es} {t : Es → M Bool} {e : Es → M D} : Rn (lcD L vs src g t e es) st Q = Rn (src es) st fun s s1 => Rn (lapC s g t e (wipeE es vs) L 0 []) s1 fun ds s2 => Q (.ref s2.length) (s2 ++ [.lst ds]) := by
  unfold lcD
  repeat (first | rfl | rw [run_bind] | simp only [run_guard, run_new, run_pure, decide_eq_true_eq] | refine Rn_q (funext fun _ => funext fun _ => ?_))
@[simp] theorem run_over {me : Es → M D} {QR : Src → S → Prop} : Rn (overS me es) st QR = Rn (me es) st fun x s => Rn (seqSrc x) s QR := by unfold overS; rw [run_bind]
end
end Mx


/-! Mx18: what the operators surely give. -/
namespace Mx
open PySem PySem.Spec L2

section
variable {α : Type} {st : S} {Q : D → S → Prop} {QB : Bool → S → Prop} {x y z : D} {r : List D}
@[simp] theorem run_blM {m : M Bool} : Rn (blM m) st Q = Rn m st fun b s => Q (.bl b) s := by unfold blM; rw [run_bind]; rfl
@[simp] theorem run_notM {m : M Bool} : Rn (notM m) st QB = Rn m st fun b s => QB (!b) s := by unfold notM; rw [run_bind]; rfl
theorem run_eqD {a b : D} : Rn (eqD a b) st QB = match toPy st 64 a, toPy st 64 b with
    | some p, some q => QB (PyData.eqv p q) st
    | _, _ => False := by
  unfold Rn eqD
  cases toPy st 64 a with
  | none => rfl
  | some p => cases toPy st 64 b <;> rfl
theorem run_eqO {a b : D} : Rn (eqO a b) st Q = match toPy st 64 a, toPy st 64 b with
    | some p, some q => Q (.bl (PyData.eqv p q)) st
    | _, _ => False := by unfold eqO; rw [run_blM, run_eqD]
theorem run_neO {a b : D} : Rn (neO a b) st Q = match toPy st 64 a, toPy st 64 b with
    | some p, some q => Q (.bl (!PyData.eqv p q)) st
    | _, _ => False := by unfold neO; rw [run_blM, run_notM, run_eqD]
theorem toPy_str {n : Nat} {x : Str} (h : PyData.strOk x = true) : toPy st (n + 1) (.str x) = some (.str x) := by
  show (if PyData.strOk x = true then some (PyData.str x) else none) = _
  rw [if_pos h]
theorem run_eqS {a b : Str} (ha : PyData.strOk a = true) (hb : PyData.strOk b = true) : Rn (eqO (.str a) (.str b)) st Q = Q (.bl (decide (a = b))) st := by
  rw [run_eqO, toPy_str ha, toPy_str hb]
  show Q (.bl (PyData.eqv (.str a) (.str b))) st = _
  rw [PyData.eqv]
  rfl
@[simp] theorem run_eqI {a b : Int} : Rn (eqO (.int a) (.int b)) st Q = Q (.bl (decide (a = b))) st := by
  rw [run_eqO]
  show Q (.bl (PyData.eqv (.int a) (.int b))) st = _
  rw [PyData.eqv]
  rfl
@[simp] theorem run_neI {a b : Int} : Rn (neO (.int a) (.int b)) st Q = Q (.bl (!decide (a = b))) st := by
  rw [run_neO]
  show Q (.bl (!PyData.eqv (.int a) (.int b))) st = _
  rw [PyData.eqv]
  rfl
@[simp] theorem run_eqB {a b : Bool} : Rn (eqO (.bl a) (.bl b)) st Q = Q (.bl (a == b)) st := by
  rw [run_eqO]
  show Q (.bl (PyData.eqv (.bool a) (.bool b))) st = _
  rw [PyData.eqv]
@[simp] theorem run_neB {a b : Bool} : Rn (neO (.bl a) (.bl b)) st Q = Q (.bl (!(a == b))) st := by
  rw [run_neO]
  show Q (.bl (!PyData.eqv (.bool a) (.bool b))) st = _
  rw [PyData.eqv]
@[simp] theorem run_ltI {a b : Int} : Rn (ltO (.int a) (.int b)) st Q = Q (.bl (decide (a < b))) st := rfl
@[simp] theorem run_gtI {a b : Int} : Rn (gtO (.int a) (.int b)) st Q = Q (.bl (decide (b < a))) st := rfl
@[simp] theorem run_leI {a b : Int} : Rn (leO (.int a) (.int b)) st Q = Q (.bl (decide (a ≤ b))) st := rfl
@[simp] theorem run_geI {a b : Int} : Rn (geO (.int a) (.int b)) st Q = Q (.bl (decide (b ≤ a))) st := rfl
@[simp] theorem run_ofO {o : Option D} : Rn (ofO o) st Q = match o with
    | some d => Q d st
    | none => False := by cases o <;> rfl
@[simp] theorem at0 : L2.atI (x :: r) 0 = some x := by
  unfold L2.atI ixN
  rw [if_pos (by omega), if_pos (by rw [List.length_cons]; omega)]
  rfl
@[simp] theorem at1 : L2.atI (x :: y :: r) 1 = some y := by
  unfold L2.atI ixN
  rw [if_pos (by omega), if_pos (by rw [List.length_cons, List.length_cons]; omega)]
  rfl
@[simp] theorem at2 : L2.atI (x :: y :: z :: r) 2 = some z := by
  unfold L2.atI ixN
  rw [if_pos (by omega), if_pos (by rw [List.length_cons, List.length_cons, List.length_cons]; omega)]
  rfl
@[simp] theorem run_ix0 : Rn (ixD (.tup (x :: r)) (.int 0)) st Q = Q x st := by
  show Rn (ofO (L2.atI (x :: r) 0)) st Q = _
  rw [at0]
  rfl
@[simp] theorem run_ix1 : Rn (ixD (.tup (x :: y :: r)) (.int 1)) st Q = Q y st := by
  show Rn (ofO (L2.atI (x :: y :: r) 1)) st Q = _
  rw [at1]
  rfl
@[simp] theorem run_ix2 : Rn (ixD (.tup (x :: y :: z :: r)) (.int 2)) st Q = Q z st := by
  show Rn (ofO (L2.atI (x :: y :: z :: r) 2)) st Q = _
  rw [at2]
  rfl
@[simp] theorem run_sl1 : Rn (slD (.tup (x :: r)) (some 1) none) st Q = Q (.tup r) st := by
  show Q (.tup (cutD (x :: r) (some 1) none)) st = _
  have e : cutD (x :: r) (some 1) none = r := by
    unfold cutD HT.sIx
    simp
  rw [e]
@[simp] theorem run_seqT {ds : List D} {QR : Src → S → Prop} : Rn (seqSrc (.tup ds)) st QR = QR (.seq ds) st := rfl
@[simp] theorem run_lenT {ds : List D} : Rn (on1 lenD [.tup ds]) st Q = Q (.int ds.length) st := rfl
@[simp] theorem run_addT {a b : List D} : Rn (addD (.tup a) (.tup b)) st Q = (a.length + b.length ≤ sizeLine ∧ Q (.tup (a ++ b)) st) := by
  show Rn (guardM _ >>= _) st Q = _
  rw [run_bind, run_guard, decide_eq_true_eq]
  rfl
@[simp] theorem run_iaddT {a b : List D} : Rn (iaddD (.tup a) (.tup b)) st Q = (a.length + b.length ≤ sizeLine ∧ Q (.tup (a ++ b)) st) := by
  show Rn (guardM _ >>= _) st Q = _
  rw [run_bind, run_guard, decide_eq_true_eq]
  rfl
@[simp] theorem run_addI {a b : Int} : Rn (binD .Add (.int a) (.int b)) st Q = Q (.int (a + b)) st := rfl
@[simp] theorem run_subI {a b : Int} : Rn (binD .Sub (.int a) (.int b)) st Q = Q (.int (a - b)) st := rfl
end

/-- m answers d, whatever the store, and only adds to it -/
def Gv (m : M D) (d : D) : Prop := ∀ st, ∃ ex, m st = some (d, st ++ ex)
theorem Gv.run {m : M D} {d : D} (h : Gv m d) {st : S} {Q : D → S → Prop} (q : ∀ ex, Q d (st ++ ex)) : Rn m st Q := by
  obtain ⟨ex, e⟩ := h st
  rw [run_some e]
  exact q ex
theorem gv_of {m : M D} {d : D} (h : ∀ st, Rn m st fun d' s => d' = d ∧ ∃ ex, s = st ++ ex) : Gv m d := fun st => by
  obtain ⟨a, s, e, rfl, ex, rfl⟩ := (h st).get
  exact ⟨ex, e⟩
/-- m answers a new list of ds, and only adds to the store -/
def Gn (m : M D) (ds : List D) : Prop := ∀ st, ∃ n ex, m st = some (.ref n, st ++ ex) ∧ st.length ≤ n ∧ (st ++ ex)[n]? = some (.lst ds)
theorem Gn.run {m : M D} {ds : List D} (h : Gn m ds) {st : S} {Q : D → S → Prop} (q : ∀ n ex, st.length ≤ n → (st ++ ex)[n]? = some (.lst ds) → Q (.ref n) (st ++ ex)) : Rn m st Q := by
  obtain ⟨n, ex, e, h1, h2⟩ := h st
  rw [run_some e]
  exact q n ex h1 h2
theorem gl_of {m : M D} {ds : List D} (h : ∀ st, Rn m st fun d s => ∃ n ex, d = .ref n ∧ s = st ++ ex ∧ st.length ≤ n ∧ s[n]? = some (.lst ds)) : Gn m ds := fun st => by
  obtain ⟨a, s, e, n, ex, rfl, rfl, h1, h2⟩ := (h st).get
  exact ⟨n, ex, e, h1, h2⟩
end Mx


/-! Mx20: sets of heap keys of any kind: one more put in. -/
namespace Mx
open PySem PySem.Spec PyProof.Rows L2
/-- a kind of heap keys that sets take -/
structure SKd (P : Program) (w : World) (κ : Type) [DecidableEq κ] extends HeapKind P w κ where
  stays : ∀ {h h' : Heap} {k : κ} {a : Addr}, is h k a → (∀ b o vs n, h.get? b = some o → o.data = .seq vs n → h'.get? b = some o) → is h' k a
  noCls : ∀ {A : Around} {E : Value → Shared → Prop} {s : Shared} {k : κ} {a : Addr} {Q : Bool → Shared → Prop}, is s.heap k a → Q false s → wpAny (model P w) A (ofAClassStatement 8 (.ref a)) Q E s
  byV : κ → Bool
  asked : ∀ {A : Around} {E : Value → Shared → Prop} {s : Shared} {k : κ} {a : Addr} {Q : Bool → Shared → Prop}, is s.heap k a → Q (byV k) s → wpAny (model P w) A (hashByValue 8 (.ref a)) Q E s
section
variable {P : Program} {w : World} {κ : Type} [DecidableEq κ] (kd : SKd P w κ) {A : Around} {E : Value → Shared → Prop} {s : Shared}
/-- the steps of a key's search -/
abbrev stepOf (t : SetTable) (z : Int) (c : Nat) : SetTable.Probe := L2.nth t.mask (L2.runAt t.mask (SetTable.bits z % (t.mask + 1)) (SetTable.bits z)) c
theorem stepOf_more (t : SetTable) (z : Int) (c d : Nat) : L2.nth t.mask (stepOf t z c) d = stepOf t z (c + d) := (L2.nth_add t.mask c _ d).symm
theorem stepOf_calm (t : SetTable) (z : Int) : ∀ c, (stepOf t z c).dummy = none
  | 0 => rfl
  | c + 1 => by
    have ih := stepOf_calm t z c
    have e : stepOf t z (c + 1) = L2.adv t.mask (stepOf t z c) := L2.nth_succ t.mask _ c
    rw [e]
    unfold L2.adv
    split <;> exact ih
/-- asked of keys, a search shows nothing -/
theorem unseen {k : κ} {b : Addr} (hb : kd.is s.heap k b) {ys : List Value} (hys : ∀ y ∈ ys, ∃ q c, y = .ref c ∧ kd.is s.heap q c) {Q : Bool → Shared → Prop} (hQ : Q false s) : wpAny (model P w) A (searchCouldBeSeen (.ref b) ys) Q E s := by
  unfold searchCouldBeSeen
  refine wpAny_bind (wpAny_forIn_list _ (fun l st s1 => st.1 = none ∧ s1 = s ∧ ∀ y ∈ l, y ∈ ys) _ ?_ ?_ _ _ ⟨rfl, rfl, fun _ h => h⟩)
  · rintro y l st s1 ⟨e1, rfl, sub⟩
    obtain ⟨q, c, rfl, hc⟩ := hys y (sub _ (List.mem_cons_self ..))
    have next : ∀ z ∈ l, z ∈ ys := fun z hz => sub z (List.mem_cons_of_mem _ hz)
    dsimp only
    by_cases same : (b == c || (carriedByValue (.ref b) && carriedByValue (.ref c))) = true
    · exact wp_if_pos same (wpAny_pure ⟨rfl, rfl, next⟩)
    · refine wp_if_neg same (wpAny_bind (kd.quiet hb ?_))
      simp only [Bool.not_true, Bool.false_eq_true, if_false]
      refine wpAny_bind (kd.quiet hc ?_)
      simp only [Bool.not_true, Bool.false_eq_true, if_false]
      refine wpAny_bind (kd.noCls hb ?_)
      simp only [Bool.false_eq_true, if_false]
      refine wpAny_bind (kd.noCls hc ?_)
      simp only [Bool.false_eq_true, if_false]
      exact wpAny_pure ⟨rfl, rfl, next⟩
  · rintro ⟨o, u⟩ s1 ⟨e1, rfl, _⟩
    simp only at e1
    subst e1
    exact wpAny_pure hQ
/-- what stands in the entries -/
def entsOf (L : List (κ × Addr)) : List (Int × Value) := L.map fun q => (kd.hash q.1, .ref q.2)
/-- the object at a is a set of the keys L, unlike ones, its table in order -/
structure Keys (h : Heap) (a : Addr) (L : List (κ × Addr)) (es : Array (Int × Value)) (ep : Nat) (t : SetTable) : Prop where
  obj : ∃ o, h.get? a = some o ∧ o.ExactSet ∧ o.data = .set es ep t
  ents : es.toList = entsOf kd L
  table : L2.TabOk t (L.map fun q => kd.hash q.1)
  unlike : (L.map (·.1)).Nodup
  keys : ∀ q ∈ L, kd.is h q.1 q.2
  led : w.params.followText "set-order" = true ∨ t.led = true
  loose : L.length * 5 < t.mask * 3
  few : L.length < 64
variable {kd} {a : Addr} {L : List (κ × Addr)} {es : Array (Int × Value)} {ep : Nat} {t : SetTable}
theorem ents_len (h : es.toList = entsOf kd L) : es.size = L.length := by
  rw [← Array.length_toList, h]
  unfold entsOf
  rw [List.length_map]
theorem ents_at (h : es.toList = entsOf kd L) {i : Nat} {q : κ × Addr} (hi : L[i]? = some q) : es[i]? = some (kd.hash q.1, .ref q.2) := by
  rw [← Array.getElem?_toList, h]
  unfold entsOf
  rw [List.getElem?_map, hi]
  rfl
theorem Keys.wide (R : Keys kd s.heap a L es ep t) : t.fits es.size = true := by
  have e1 := R.table.sz
  rw [List.length_map] at e1
  have e2 := ents_len R.ents
  have e3 := R.loose
  unfold SetTable.fits SetTable.fill
  rw [R.table.dm, Bool.and_eq_true, beq_iff_eq, decide_eq_true_eq]
  exact ⟨by omega, by show t.place.size + 0 ≤ t.mask; omega⟩
theorem Keys.firm (R : Keys kd s.heap a L es ep t) : ¬ t.gaveWay = true := by
  unfold SetTable.gaveWay
  rw [L2.mask_odd R.table.mok]
  decide
/-- the place of the i-th key -/
theorem Keys.spot (R : Keys kd s.heap a L es ep t) {i : Nat} (hi : i < L.length) : ∃ j, t.place.toList[i]? = some j := by
  have e1 := R.table.sz
  rw [List.length_map] at e1
  exact ⟨_, List.getElem?_eq_getElem (by rw [Array.length_toList]; omega)⟩
theorem Keys.of_spot (R : Keys kd s.heap a L es ep t) {i j : Nat} (hi : t.place.toList[i]? = some j) : ∃ q, L[i]? = some q := by
  have e1 := R.table.sz
  rw [List.length_map] at e1
  have e2 := (List.getElem?_eq_some_iff.mp hi).1
  rw [Array.length_toList] at e2
  exact ⟨_, List.getElem?_eq_getElem (by omega)⟩
/-- THE SEARCH, from its c-th step on: K is the first free place on the way -/
theorem seek_from (R : Keys kd s.heap a L es ep t) {k : κ} {b : Addr} (hb : kd.is s.heap k b) (hA : kd.room A) {K : Nat} (hK1 : K < 10 * SetTable.turns t.mask) (hK2 : L2.way t.mask (kd.hash k) K ∉ t.place.toList) (hK3 : ∀ c, c < K → L2.way t.mask (kd.hash k) c ∈ t.place.toList)
    {Q : SetFound → Shared → Prop} (old : k ∈ L.map (·.1) → Q (.there none) s) (new : k ∉ L.map (·.1) → Q (.free (L2.way t.mask (kd.hash k) K) false) s) :
    ∀ (f c : Nat) (stand : Option SetTable.Probe), stand.getD (t.probeStart (kd.hash k)) = stepOf t (kd.hash k) c → c ≤ K → K < f + c → (∀ (i : Nat) (q : κ × Addr), L[i]? = some q → q.1 = k → ∃ d, c ≤ d ∧ d < K ∧ t.place.toList[i]? = some (L2.way t.mask (kd.hash k) d)) →
      wpAny (model P w) A (setSearchFrom a (.ref b) (kd.hash k) true f stand) Q E s
  | 0, c, _, _, h1, h2, _ => by omega
  | f + 1, c, stand, hs, h1, h2, ahead => by
    obtain ⟨o, ho, _, hd⟩ := R.obj
    have tell : ∀ (i : Nat) (q : κ × Addr), L[i]? = some q → (fun i => (es[i]?.map (·.1)).getD 0) i = kd.hash q.1 := fun i q hq => by
      show (es[i]?.map (·.1)).getD 0 = _
      rw [ents_at R.ents hq]
      rfl
    have jn : ∀ d, (L2.nth t.mask (stepOf t (kd.hash k) c) d).j = L2.way t.mask (kd.hash k) (c + d) := fun d => congrArg SetTable.Probe.j (stepOf_more t _ c d)
    rw [L2.setSearchFrom_succ]
    refine wpAny_bind (wpAny_setState_of ho hd R.wide ?_)
    dsimp only
    refine wp_if_neg R.firm ?_
    try refine wpAny_bind (wpAny_pure ?_)
    rcases L2.go_spec t R.table.ris R.table.dm (fun i => (es[i]?.map (·.1)).getD 0) (kd.hash k) (10 * SetTable.turns t.mask) (K - c) (stepOf t (kd.hash k) c) (stepOf_calm t _ c) (by omega)
      (fun d hd => by rw [jn]; exact hK3 _ (by omega)) (by rw [jn, show c + (K - c) = K by omega]; exact hK2) with ⟨d, i, hd1, hi, hh, before, met⟩ | ⟨before, met⟩
    · -- one of the same hash
      have met' : t.probe (fun i => (es[i]?.map (·.1)).getD 0) (kd.hash k) (stand.getD (t.probeStart (kd.hash k))) = some (.candidate (L2.way t.mask (kd.hash k) (c + d)) i (stepOf t (kd.hash k) (c + (d + 1)))) := by
        rw [hs, ← jn, ← stepOf_more]
        exact met
      rw [met']
      dsimp only
      rw [jn] at hi
      obtain ⟨q, hq⟩ := R.of_spot hi
      have hqm := List.mem_of_getElem? hq
      have live := L2.slot_live R.table.ris hi
      have go : wpAny (model P w) A (L2.searchRest a (.ref b) (kd.hash k) true f es t (L2.way t.mask (kd.hash k) (c + d)) i (stepOf t (kd.hash k) (c + (d + 1)))) Q E s := by
        unfold L2.searchRest
        rw [ents_at R.ents hq]
        dsimp only
        refine wpAny_bind (wpAny_holding (kd.eqBool hA (R.keys q hqm) hb ?_))
        refine wpAny_bind (wpAny_setState_of ho hd R.wide ?_)
        dsimp only
        by_cases e : q.1 = k
        · exact wp_if_pos (by simp [e]) (wpAny_pure (old (List.mem_map.mpr ⟨q, hqm, e⟩)))
        · refine wp_if_neg (by simp [e]) ?_
          try refine wpAny_bind (wpAny_pure ?_)
          rw [L2.sameMem]
          dsimp only
          simp only [if_true, live, ents_at R.ents hq]
          refine wpAny_bind (wpAny_isSame_ref_self (wpAny_bind (wpAny_pure ?_)))
          simp only [if_true]
          refine wp_if_neg (by simp [e]) ?_
          refine seek_from R hb hA hK1 hK2 hK3 old new f (c + (d + 1)) _ rfl (by omega) (by omega) fun i2 q2 h3 h4 => ?_
          obtain ⟨d2, g1, g2, g3⟩ := ahead i2 q2 h3 h4
          refine ⟨d2, ?_, g2, g3⟩
          have ne1 : ¬ d2 < c + d := fun lt => before (d2 - c) i2 (by omega) (by rw [jn, show c + (d2 - c) = d2 by omega]; exact g3) ((tell i2 q2 h3).trans (congrArg kd.hash h4))
          have ne2 : d2 ≠ c + d := fun eq => by
            rw [eq] at g3
            have live2 := L2.slot_live R.table.ris g3
            rw [live] at live2
            injection live2 with e2
            rw [← e2, hq] at h3
            exact e ((congrArg Prod.fst (Option.some.inj h3)).trans h4)
          omega
      by_cases hl : t.led = true
      · refine wp_if_neg (by simp [hl]) ?_
        try refine wpAny_bind (wpAny_pure ?_)
        exact go
      · refine wp_if_pos (by simp [hl]) (wpAny_bind (unseen kd hb (fun y hy => ?_) ?_))
        · obtain ⟨v, hv, rfl⟩ := List.mem_map.mp hy
          have hv2 : v ∈ es.toList := by
            have : v ∈ es ∧ v.1 = kd.hash k := by simpa using hv
            simpa using this.1
          rw [R.ents] at hv2
          obtain ⟨q2, hq2, rfl⟩ := List.mem_map.mp hv2
          exact ⟨q2.1, q2.2, rfl, R.keys q2 hq2⟩
        · refine wp_if_neg (by decide) ?_
          try refine wpAny_bind (wpAny_pure ?_)
          exact go
    · -- the free place
      have met' : t.probe (fun i => (es[i]?.map (·.1)).getD 0) (kd.hash k) (stand.getD (t.probeStart (kd.hash k))) = some (.empty (L2.way t.mask (kd.hash k) K) none) := by
        have e : (L2.nth t.mask (stepOf t (kd.hash k) c) (K - c)).j = L2.way t.mask (kd.hash k) K := by rw [jn, show c + (K - c) = K by omega]
        rw [hs, ← e]
        exact met
      rw [met']
      dsimp only
      refine wpAny_pure (new fun hm => ?_)
      obtain ⟨q, hq, e⟩ := List.mem_map.mp hm
      obtain ⟨i, hi, e2⟩ := List.getElem_of_mem hq
      have h3 : L[i]? = some q := by rw [List.getElem?_eq_getElem hi, e2]
      obtain ⟨d, g1, g2, g3⟩ := ahead i q h3 e
      exact before (d - c) i (by omega) (by rw [jn, show c + (d - c) = d by omega]; exact g3) ((tell i q h3).trans (congrArg kd.hash e))
/-- the search as adding asks for it -/
theorem seek (R : Keys kd s.heap a L es ep t) {k : κ} {b : Addr} (hb : kd.is s.heap k b) (hA : kd.room A) {Q : SetFound → Shared → Prop} (old : k ∈ L.map (·.1) → Q (.there none) s)
    (new : ∀ K, k ∉ L.map (·.1) → L2.way t.mask (kd.hash k) K ∉ t.place.toList → (∀ c, c < K → L2.way t.mask (kd.hash k) c ∈ t.place.toList) → Q (.free (L2.way t.mask (kd.hash k) K) false) s) :
    wpAny (model P w) A (setSearch a (.ref b) (kd.hash k) true) Q E s := by
  have e1 := R.loose
  obtain ⟨K, hK1, hK2, hK3⟩ := R.table.first (by rw [List.length_map]; omega) (kd.hash k)
  have small : K < 100000 := by
    have : 10 * SetTable.turns t.mask ≤ 1420 := by
      unfold SetTable.turns
      rcases R.table.mok with e | e | e <;> omega
    omega
  unfold setSearch
  refine seek_from R hb hA hK1 hK2 hK3 old (fun hn => new K hn hK2 hK3) 100000 0 none rfl (Nat.zero_le _) (by omega) fun i q hq e => ?_
  have hz : (L.map fun q => kd.hash q.1)[i]? = some (kd.hash k) := by rw [List.getElem?_map, hq, ← e]; rfl
  obtain ⟨j, hj⟩ := R.spot (List.getElem?_eq_some_iff.mp hq).1
  obtain ⟨c, hc, e2⟩ := R.table.before hK2 hz hj
  exact ⟨c, Nat.zero_le _, hc, by rw [hj, e2]⟩
end
end Mx


namespace Mx
open PySem PySem.Spec PyProof.Rows L2
theorem range_all {α : Type} : ∀ l : List α, (List.range l.length).filterMap (fun i => l[i]?) = l
  | [] => rfl
  | x :: l => by
    rw [List.length_cons, List.range_succ_eq_map, List.filterMap_cons]
    simp only [List.getElem?_cons_zero, List.filterMap_map]
    congr 1
    exact range_all l
theorem fm_congr {α β : Type} {f g : α → Option β} : ∀ {l : List α}, (∀ x ∈ l, f x = g x) → l.filterMap f = l.filterMap g
  | [], _ => rfl
  | x :: l, h => by
    rw [List.filterMap_cons, List.filterMap_cons, h x (List.mem_cons_self ..), fm_congr fun y hy => h y (List.mem_cons_of_mem _ hy)]
section
variable {P : Program} {w : World} {κ : Type} [DecidableEq κ] {kd : SKd P w κ} {A : Around} {E : Value → Shared → Prop} {s : Shared} {a : Addr} {L : List (κ × Addr)} {es : Array (Int × Value)} {ep : Nat} {t : SetTable}
theorem ents_get (h : es.toList = entsOf kd L) (i : Nat) : es[i]? = (L[i]?).map fun q => (kd.hash q.1, Value.ref q.2) := by
  rw [← Array.getElem?_toList, h]
  unfold entsOf
  rw [List.getElem?_map]
/-- the entries laid in another order -/
theorem ents_turn (h : es.toList = entsOf kd L) {order : Array Nat} (hp : order.toList.Perm (List.range L.length)) :
    ∃ M, (order.filterMap (es[·]?)).toList = entsOf kd M ∧ M.Perm L ∧ (M.map fun q => kd.hash q.1) = order.toList.map fun i => (es.map (·.1)).getD i 0 := by
  refine ⟨order.toList.filterMap fun i => L[i]?, ?_, ?_, ?_⟩
  · rw [Array.toList_filterMap]
    unfold entsOf
    rw [List.map_filterMap]
    exact fm_congr fun i _ => ents_get h i
  · exact (hp.filterMap _).trans (by rw [range_all])
  · rw [List.map_filterMap, ← List.filterMap_eq_map]
    refine fm_congr fun i hi => ?_
    have hlt : i < L.length := List.mem_range.mp (hp.mem_iff.mp hi)
    have e : (es.map (·.1))[i]? = some (kd.hash L[i].1) := by
      rw [Array.getElem?_map, ents_get h, List.getElem?_eq_getElem hlt]
      rfl
    rw [List.getElem?_eq_getElem hlt]
    show some (kd.hash L[i].1) = some ((es.map (·.1)).getD i 0)
    rw [Array.getD_eq_getD_getElem?, e]
    rfl
/-- what is no set stays as it is when a set is written -/
theorem key_but {h h' : Heap} {k : κ} {b : Addr} (hb : kd.is h k b) {o : Obj} (ho : h.get? a = some o) (hd : o.data = .set es ep t) (hs : Heap.SameBut a h h') : kd.is h' k b :=
  kd.stays hb fun c oc vs n e1 e2 => (hs.2 c fun z => by rw [z, ho] at e1; cases e1; rw [hd] at e2; cases e2).trans e1
/-- the table laid anew, larger -/
theorem relay {o : Obj} (ho : s.heap.get? a = some o) (hx : o.ExactSet) (hd : o.data = .set es ep t) (he : es.toList = entsOf kd L) (hz : t.place.size = es.size) (hdm : t.dummies = #[]) (hfl : es.size ≤ t.mask) (nd : (L.map (·.1)).Nodup)
    (hk : ∀ q ∈ L, kd.is s.heap q.1 q.2) (ld : w.params.followText "set-order" = true ∨ t.led = true) (few : L.length < 64) {n M : Nat} (hw : SetTable.sizeAbove n - 1 = M) (hM : MaskOk M) (hw2 : SetTable.sizeAbove n ≤ 128) (hn : L.length * 5 < M * 3) {Q : Unit → Shared → Prop}
    (hQ : ∀ h' L' es' ep' t', Heap.SameBut a s.heap h' → Keys kd h' a L' es' ep' t' → L'.Perm L → Q () { s with heap := h' }) : wpAny (model P w) A (setRelay a n) Q E s := by
  have el := ents_len he
  obtain ⟨t', order, r1, r2, r3, r4, r5, r6, r7⟩ := relaid_ok t (hs := es.map (·.1)) (wanted := n) hw hM (by rw [Array.size_map]; omega)
  rw [Array.size_map, el] at r2
  obtain ⟨L', q1, q2, q3⟩ := ents_turn he r2
  rw [← q3] at r3
  have e2 : (order.filterMap (es[·]?)).size = L.length := by rw [ents_len q1, q2.length_eq]
  rw [setRelay_eq]
  refine wpAny_bind (wpAny_setState_of ho hd ?_ ?_)
  · unfold SetTable.fits SetTable.fill
    rw [hdm, Bool.and_eq_true, beq_iff_eq, decide_eq_true_eq]
    exact ⟨hz, by show t.place.size + 0 ≤ t.mask; omega⟩
  dsimp only
  refine wp_if_neg (by rw [sizeLine_eq]; omega) ?_
  try refine wpAny_bind (wpAny_pure ?_)
  rw [r1]
  dsimp only
  refine wpAny_bind (wp_if_neg (by rw [e2, el]; simp) ?_)
  try refine wpAny_bind (wpAny_pure ?_)
  refine wpAny_pure ?_
  dsimp only
  refine wpAny_storeSet_of ho hd ?_ (by rw [e2, sizeLine_eq]; omega)
  have sb : Heap.SameBut a s.heap (s.heap.update a (Obj.putSet (order.filterMap (es[·]?)) t')) := Heap.SameBut.update ..
  refine hQ _ L' _ (ep + 1) t' sb ⟨⟨_, store_at ho hd, ⟨hx.1, hx.2.1, hx.2.2⟩, rfl⟩, q1, r3, (q2.map (·.1)).nodup_iff.mpr nd, fun q hq => key_but (hk q (q2.mem_iff.mp hq)) ho hd sb, by rw [r5]; exact ld, ?_, by rw [q2.length_eq]; exact few⟩ q2
  rw [q2.length_eq, r4]
  exact hn
theorem put_at (L : List (κ × Addr)) (p : Nat) (k : κ) (b : Addr) : entsOf kd (L.take p ++ (k, b) :: L.drop p) = (entsOf kd L).take p ++ (kd.hash k, Value.ref b) :: (entsOf kd L).drop p := by
  unfold entsOf
  rw [List.map_append, List.map_cons, List.map_take, List.map_drop]
theorem plain_keep {z : SetTable} (h : L2.TabOk t (L.map fun q => kd.hash q.1)) (e1 : z.place = t.place) (e2 : z.dummies = t.dummies) (e3 : z.mask = t.mask) : L2.TabOk z (L.map fun q => kd.hash q.1) :=
  ⟨by rw [e1]; exact h.ris, by rw [e2]; exact h.dm, by rw [e1]; exact h.sz, by rw [e3]; exact h.mok, by rw [e1, e3]; exact h.bd, by rw [e1, e3]; exact h.reach⟩
/-- ONE MORE -/
theorem more (R : Keys kd s.heap a L es ep t) {k : κ} {b : Addr} (hb : kd.is s.heap k b) (hA : kd.room A) (hfew : L.length + 1 < 64) {Q : Bool → Shared → Prop}
    (hQ : ∀ r h' L' es' ep' t', Heap.SameBut a s.heap h' → Keys kd h' a L' es' ep' t' → (k ∈ L.map (·.1) → L' = L) → (k ∉ L.map (·.1) → L'.Perm ((k, b) :: L)) → Q r { s with heap := h' }) :
    wpAny (model P w) A (setAddHashed a (.ref b) (kd.hash k)) Q E s := by
  obtain ⟨o, ho, hx, hd⟩ := R.obj
  have el := ents_len R.ents
  have lo := R.loose
  unfold setAddHashed
  refine wpAny_holding ?_
  rw [show (100000 : Nat) = 99999 + 1 from rfl, setAddHashedIn_succ]
  refine wpAny_bind (wpAny_setState_of ho hd R.wide ?_)
  dsimp only
  refine wp_if_neg (by simp [byScan, Value.scannable]) ?_
  try refine wpAny_bind (wpAny_pure ?_)
  refine wpAny_bind (seek R hb hA (fun there => ?_) fun K hm hK hK2 => ?_)
  · dsimp only
    exact wpAny_pure (hQ false s.heap L es ep t (Heap.SameBut.refl a s.heap) R (fun _ => rfl) fun z => absurd there z)
  · dsimp only
    refine wpAny_bind (wpAny_setState_of ho hd R.wide ?_)
    dsimp only
    have put := R.table.put hK hK2
    generalize hpt : t.put (way t.mask (kd.hash k) K) = pt at put ⊢
    obtain ⟨t1, p⟩ := pt
    obtain ⟨p1, p2, p3, p4, p5, p6, p7, p8, p9⟩ := put
    dsimp only at p1 p3 p4 p5 p6 p7 p8 p9 ⊢
    subst p1
    have tail : ∀ v : Bool, wpAny (model P w) A (do
        storeSet a (SetTable.insertAt es (SetTable.below t.place (way t.mask (kd.hash k) K)) (kd.hash k, Value.ref b)) (if v = true then t1 else { mask := t1.mask, place := t1.place, dummies := t1.dummies, finger := t1.finger, led := t1.led, moves := t1.moves, plain := false })
        if (!false && (if v = true then t1 else { mask := t1.mask, place := t1.place, dummies := t1.dummies, finger := t1.finger, led := t1.led, moves := t1.moves, plain := false }).tooFull) = true then do
          setRelay a (SetTable.grown (es.size + 1))
          pure true
        else pure true) Q E s := by
      intro v
      have h5 : ∃ z : SetTable, z.place = t1.place ∧ z.dummies = t1.dummies ∧ z.mask = t1.mask ∧ z.led = t1.led ∧ (if v = true then t1 else { mask := t1.mask, place := t1.place, dummies := t1.dummies, finger := t1.finger, led := t1.led, moves := t1.moves, plain := false }) = z := by
        cases v
        · exact ⟨{ mask := t1.mask, place := t1.place, dummies := t1.dummies, finger := t1.finger, led := t1.led, moves := t1.moves, plain := false }, rfl, rfl, rfl, rfl, rfl⟩
        · exact ⟨t1, rfl, rfl, rfl, rfl, rfl⟩
      obtain ⟨z, z1, z2, z3, z4, ez⟩ := h5
      rw [ez]
      have zf : z.fill = t1.fill := by unfold SetTable.fill; rw [z1, z2]
      have new : (SetTable.insertAt es (SetTable.below t.place (way t.mask (kd.hash k) K)) (kd.hash k, Value.ref b)).toList = entsOf kd (L.take (SetTable.below t.place (way t.mask (kd.hash k) K)) ++ (k, b) :: L.drop (SetTable.below t.place (way t.mask (kd.hash k) K))) := by
        rw [SetTable.toList_insertAt, put_at, R.ents]
      generalize SetTable.below t.place (way t.mask (kd.hash k) K) = p at p2 p3 new ⊢
      have pm : (L.take p ++ (k, b) :: L.drop p).Perm ((k, b) :: L) := by
        have := List.perm_middle (a := (k, b)) (l₁ := L.take p) (l₂ := L.drop p)
        rwa [List.take_append_drop] at this
      have hs : (L.take p ++ (k, b) :: L.drop p).map (fun q => kd.hash q.1) = (L.map fun q => kd.hash q.1).take p ++ kd.hash k :: (L.map fun q => kd.hash q.1).drop p := by
        rw [List.map_append, List.map_cons, List.map_take, List.map_drop]
      rw [← hs] at p3
      generalize SetTable.insertAt es p (kd.hash k, Value.ref b) = es1 at new ⊢
      generalize L.take p ++ (k, b) :: L.drop p = L1 at p3 new pm
      have len1 : L1.length = L.length + 1 := pm.length_eq
      have el1 := ents_len new
      have nd1 : (L1.map (·.1)).Nodup := (pm.map (·.1)).nodup_iff.mpr (List.nodup_cons.mpr ⟨hm, R.unlike⟩)
      refine wpAny_bind (wpAny_storeSet_of ho hd ?_ (by rw [el1, len1, sizeLine_eq]; omega))
      have sb : Heap.SameBut a s.heap (s.heap.update a (Obj.putSet es1 z)) := Heap.SameBut.update ..
      have ho1 := store_at (es' := es1) (t' := z) ho hd
      generalize s.heap.update a (Obj.putSet es1 z) = h1 at sb ho1 ⊢
      have k1 : ∀ q ∈ L1, kd.is h1 q.1 q.2 := fun q hq => by
        rcases List.mem_cons.mp (pm.mem_iff.mp hq) with e | hq
        · rw [e]; exact key_but hb ho hd sb
        · exact key_but (R.keys q hq) ho hd sb
      have T1 := plain_keep p3 z1 z2 z3
      have ld1 : w.params.followText "set-order" = true ∨ z.led = true := by rw [z4, p5]; exact R.led
      rw [List.length_map] at p9
      by_cases hf : z.tooFull = true
      · rw [if_pos (by simp [hf])]
        have full : (L.length + 1) * 5 ≥ t.mask * 3 := by
          have h := hf
          unfold SetTable.tooFull at h
          rw [decide_eq_true_eq, zf, p9, z3, p4] at h
          exact h
        have two : (t.mask = 7 ∧ L.length = 4) ∨ (t.mask = 31 ∧ L.length = 18) := by
          rcases R.table.mok with e | e | e
          · exact .inl ⟨e, by omega⟩
          · exact .inr ⟨e, by omega⟩
          · omega
        have sz1 : z.place.size = es1.size := by
          have h := T1.sz
          rw [List.length_map] at h
          rw [h, el1]
        have go : ∀ M, SetTable.sizeAbove (SetTable.grown (L.length + 1)) - 1 = M → MaskOk M → SetTable.sizeAbove (SetTable.grown (L.length + 1)) ≤ 128 → (L.length + 1) * 5 < M * 3 →
            wpAny (model P w) A (setRelay a (SetTable.grown (es.size + 1)) >>= fun _ => pure true) Q E { s with heap := h1 } := fun M g1 g2 g3 g4 => by
          rw [el]
          refine wpAny_bind (relay (kd := kd) (L := L1) (s := { s with heap := h1 }) ho1 ⟨hx.1, hx.2.1, hx.2.2⟩ rfl new sz1 T1.dm (by rw [el1, len1, z3, p4]; omega) nd1 k1 ld1 (by rw [len1]; exact hfew) g1 g2 g3 (by rw [len1]; exact g4) ?_)
          intro h2 L2 es2 ep2 t2 sb2 R2 pm2
          exact wpAny_pure (hQ true h2 L2 es2 ep2 t2 (sb.trans sb2) R2 (fun c => absurd c hm) fun _ => pm2.trans pm)
        rcases two with ⟨_, e2⟩ | ⟨_, e2⟩
        · exact go 31 (by rw [e2, size_20]) (.inr (.inl rfl)) (by rw [e2, size_20]; decide) (by omega)
        · exact go 127 (by rw [e2, size_76]) (.inr (.inr rfl)) (by rw [e2, size_76]; decide) (by omega)
      · rw [if_neg (by simp [hf])]
        refine wpAny_pure (hQ true h1 L1 es1 (ep + 1) z sb ⟨⟨_, ho1, ⟨hx.1, hx.2.1, hx.2.2⟩, rfl⟩, new, T1, nd1, k1, ld1, ?_, by rw [len1]; exact hfew⟩ (fun c => absurd c hm) fun _ => pm)
        have h := hf
        unfold SetTable.tooFull at h
        rw [decide_eq_true_eq, zf, p9] at h
        rw [len1]
        omega
    by_cases hp : t1.plain = true
    · rw [if_pos hp]
      exact wpAny_bind (kd.asked hb (tail _))
    · rw [if_neg hp]
      exact wpAny_bind (wpAny_pure (tail true))
end
end Mx


/-! Mx22: nested tuples as such keys; a set made of a list. -/
namespace Mx
open PySem PySem.Spec PyProof.Rows L2
section
variable {P : Program} {w : World}
def NoCls (P : Program) (w : World) (n : Nat) (s : Shared) (v : Value) : Prop := ∀ (A : Around) (E : Value → Shared → Prop) (Q : Bool → Shared → Prop), Q false s → wpAny (model P w) A (ofAClassStatement n v) Q E s
def Asked (P : Program) (w : World) (n : Nat) (s : Shared) (v : Value) (b : Bool) : Prop := ∀ (A : Around) (E : Value → Shared → Prop) (Q : Bool → Shared → Prop), Q b s → wpAny (model P w) A (hashByValue n v) Q E s
mutual
/-- whether a key's hash is told by its value alone -/
def plainK : NestedKey → Bool
  | .none => true
  | .num _ => true
  | .text _ => false
  | .tup ks => plainKs ks
def plainKs : List NestedKey → Bool
  | [] => true
  | k :: ks => plainK k && plainKs ks
end
theorem asked_pure {n : Nat} {s : Shared} {v : Value} {b : Bool} (h : hashByValue n v = pure b) : Asked P w n s v b := fun A E Q q => by
  rw [h]
  exact wpAny_pure q
theorem cls_pure {n : Nat} {s : Shared} {v : Value} (h : ofAClassStatement n v = pure false) : NoCls P w n s v := fun A E Q q => by
  rw [h]
  exact wpAny_pure q
theorem cls_tup {n : Nat} {s : Shared} {a : Addr} {o : Obj} {vs : Array Value} {m : Nat} (ho : s.heap.get? a = some o) (hc : o.cls = .type "tuple") (hd : o.data = .seq vs m) (hq : ∀ v ∈ vs.toList, NoCls P w n s v) : NoCls P w (n + 1) s (.ref a) := fun A E Q h => by
  have hT : s.TypeIs (.ref a) "tuple" := ⟨o, ho, hc⟩
  unfold ofAClassStatement
  refine wpAny_bind (wpAny_typeOf hT ?_)
  dsimp only
  have e : (("tuple" : String) == "tuple") = true := by decide
  simp only [e, if_true, Bool.not_true, Bool.false_eq_true, if_false]
  try refine wpAny_bind (wpAny_pure ?_)
  try simp only [Bool.not_true, Bool.false_eq_true, if_false]
  show wpAny _ _ (seqItems? (.ref a) >>= _) _ _ s
  refine wpAny_bind (wpAny_seqItems ho hd ?_)
  dsimp only
  refine wpAny_bind ?_
  show wpAny _ _ (forIn vs _ _) _ _ s
  rw [← Array.forIn_toList]
  refine wpAny_forIn_list _ (fun l st s1 => st.1 = none ∧ s1 = s ∧ ∀ v ∈ l, v ∈ vs.toList) _ ?_ ?_ _ _ ⟨rfl, rfl, fun _ z => z⟩
  · rintro v l st s1 ⟨e1, rfl, sub⟩
    refine wpAny_bind (hq v (sub v (List.mem_cons_self ..)) _ _ _ ?_)
    simp only [Bool.false_eq_true, if_false]
    exact wpAny_pure ⟨rfl, rfl, fun z hz => sub z (List.mem_cons_of_mem _ hz)⟩
  · rintro ⟨o1, u1⟩ s1 ⟨e1, rfl, _⟩
    simp only at e1
    subst e1
    exact wpAny_pure h
mutual
theorem cls_key : ∀ (k : NestedKey) (v : Value) (n : Nat) (s : Shared), NestedIs s.heap k v → k.depth ≤ n → NoCls P w n s v
  | .none, _, n, s, x, _ => by cases x; exact cls_pure (by cases n <;> rfl)
  | .num i, _, n, s, x, _ => by cases x <;> exact cls_pure (by cases n <;> rfl)
  | .text y, _, n, s, x, _ => by cases x; exact cls_pure (by cases n <;> rfl)
  | .tup ks, _, n, s, x, hn => by
    cases x with
    | tup hg hc hd hk =>
      simp only [NestedKey.depth] at hn
      cases n with
      | zero => omega
      | succ n => exact cls_tup hg hc hd (cls_keys ks _ n s hk (by omega))
theorem cls_keys : ∀ (ks : List NestedKey) (vs : List Value) (n : Nat) (s : Shared), NestedAll s.heap ks vs → NestedKey.depthAll ks ≤ n → ∀ v ∈ vs, NoCls P w n s v
  | [], _, n, s, x, _, v, hv => by cases x; cases hv
  | k :: ks, _, n, s, x, hn, v, hv => by
    cases x with
    | cons x1 x2 =>
      simp only [NestedKey.depthAll] at hn
      rcases List.mem_cons.mp hv with e | hv
      · rw [e]; exact cls_key k _ n s x1 (by omega)
      · exact cls_keys ks _ n s x2 (by omega) v hv
end
/-- each value with its word -/
inductive AskedAll (P : Program) (w : World) (n : Nat) (s : Shared) : List Value → List Bool → Prop
  | nil : AskedAll P w n s [] []
  | cons {v b vs bs} : Asked P w n s v b → AskedAll P w n s vs bs → AskedAll P w n s (v :: vs) (b :: bs)
theorem asked_tup {n : Nat} {s : Shared} {a : Addr} {o : Obj} {vs : Array Value} {m : Nat} {bs : List Bool} (ho : s.heap.get? a = some o) (hc : o.cls = .type "tuple") (hd : o.data = .seq vs m) (hq : AskedAll P w n s vs.toList bs) : Asked P w (n + 1) s (.ref a) (bs.all id) := fun A E Q h => by
  have hT : s.TypeIs (.ref a) "tuple" := ⟨o, ho, hc⟩
  unfold hashByValue
  refine wpAny_bind (wpAny_specialOf hT F.slot_tuple_hash.lookup ?_)
  show wpAny _ _ (seqItems? (.ref a) >>= _) _ _ s
  refine wpAny_bind (wpAny_seqItems ho hd ?_)
  refine wpAny_bind ?_
  show wpAny _ _ (forIn vs _ _) _ _ s
  rw [← Array.forIn_toList]
  refine wpAny_forIn_list _ (fun l st s1 => s1 = s ∧ st.1 = none ∧ ∃ cs, AskedAll P w n s l cs ∧ cs.all id = bs.all id) _ ?_ ?_ _ _ ⟨rfl, rfl, bs, hq, rfl⟩
  · rintro v l st s1 ⟨rfl, e1, cs, hc2, e2⟩
    cases hc2 with
    | cons h1 h2 =>
      rename_i b cs
      refine wpAny_bind (h1 _ _ _ ?_)
      cases b with
      | false =>
        have e3 : bs.all id = false := by rw [← e2]; rfl
        simp only [Bool.not_false, if_true]
        exact wpAny_pure (wpAny_pure (e3 ▸ h))
      | true =>
        simp only [Bool.not_true, Bool.false_eq_true, if_false]
        exact wpAny_pure ⟨rfl, rfl, cs, h2, e2⟩
  · rintro ⟨o1, u1⟩ s1 ⟨rfl, e1, cs, hc2, e2⟩
    cases hc2
    have e3 : bs.all id = true := by rw [← e2]; rfl
    simp only at e1
    subst e1
    exact wpAny_pure (e3 ▸ h)
mutual
theorem asked_key : ∀ (k : NestedKey) (v : Value) (n : Nat) (s : Shared), NestedIs s.heap k v → k.depth ≤ n → Asked P w n s v (plainK k)
  | .none, _, n, s, x, _ => by cases x; exact asked_pure (by cases n <;> rfl)
  | .num i, _, n, s, x, _ => by cases x <;> exact asked_pure (by cases n <;> rfl)
  | .text y, _, n, s, x, _ => by cases x; exact asked_pure (by cases n <;> rfl)
  | .tup ks, _, n, s, x, hn => by
    cases x with
    | tup hg hc hd hk =>
      simp only [NestedKey.depth] at hn
      cases n with
      | zero => omega
      | succ n =>
        obtain ⟨bs, h1, h2⟩ := asked_keys ks _ n s hk (by omega)
        have h3 : plainK (.tup ks) = bs.all id := h2.symm
        rw [h3]
        exact asked_tup hg hc hd h1
theorem asked_keys : ∀ (ks : List NestedKey) (vs : List Value) (n : Nat) (s : Shared), NestedAll s.heap ks vs → NestedKey.depthAll ks ≤ n → ∃ bs, AskedAll P w n s vs bs ∧ bs.all id = plainKs ks
  | [], _, n, s, x, _ => by cases x; exact ⟨[], .nil, rfl⟩
  | k :: ks, _, n, s, x, hn => by
    cases x with
    | cons x1 x2 =>
      simp only [NestedKey.depthAll] at hn
      obtain ⟨bs, h1, h2⟩ := asked_keys ks _ n s x2 (by omega)
      exact ⟨plainK k :: bs, .cons (asked_key k _ n s x1 (by omega)) h1, by rw [List.all_cons, h2]; rfl⟩
end
/-- nested tuples as keys of sets -/
def nestKd (P : Program) (w : World) : SKd P w NestedKey where
  toHeapKind := nestedKind P w
  stays := fun h k => ⟨NestedIs.at (fun b o vs n e1 e2 => k b o vs n e1 e2) _ _ h.1, h.2⟩
  noCls := fun h q => cls_key _ _ 8 _ h.1 h.2 _ _ _ q
  byV := plainK
  asked := fun h q => asked_key _ _ 8 _ h.1 h.2 _ _ _ q
end
end Mx


/-! Mx23: set(xs), xs a list of such keys. -/
namespace Mx
open PySem PySem.Spec PyProof.Rows L2
abbrev bareSet (w : World) : Obj := { cls := .type "set", dict := none, data := .set #[] 0 (.fresh 0 0 (!w.params.followText "set-order")) }
section
variable {P : Program} {w : World} {κ : Type} [DecidableEq κ] {kd : SKd P w κ} {A : Around} {E : Value → Shared → Prop} {s : Shared}
theorem Keys.bare {h : Heap} {a : Addr} (ho : h.get? a = some (bareSet w)) : Keys kd h a [] #[] 0 (.fresh 0 0 (!w.params.followText "set-order")) where
  obj := ⟨_, ho, ⟨rfl, rfl, rfl⟩, rfl⟩
  ents := rfl
  table := ⟨List.Pairwise.nil, rfl, rfl, .inl rfl, fun x hx => (by cases hx), fun i h j hi => (by simp at hi)⟩
  unlike := List.nodup_nil
  keys := fun p hp => (by cases hp)
  led := by
    show _ ∨ (!w.params.followText "set-order") = true
    cases w.params.followText "set-order"
    · exact .inr rfl
    · exact .inl rfl
  loose := by show 0 * 5 < 7 * 3; decide
  few := by show 0 < 64; decide
theorem Keys.later {h h' : Heap} {a : Addr} {L : List (κ × Addr)} {es : Array (Int × Value)} {ep : Nat} {t : SetTable} (R : Keys kd h a L es ep t) (ha : ∀ o, h.get? a = some o → h'.get? a = some o) (hk : ∀ q ∈ L, kd.is h' q.1 q.2) : Keys kd h' a L es ep t := by
  obtain ⟨o, ho, r⟩ := R.obj
  exact ⟨⟨o, ha o ho, r⟩, R.ents, R.table, R.unlike, hk, R.led, R.loose, R.few⟩
/-- what a set has met of the first i keys -/
structure Met (ks : List (κ × Addr)) (i : Nat) (L : List (κ × Addr)) : Prop where
  of : ∀ q ∈ L, q ∈ ks
  all : ∀ j q, j < i → ks[j]? = some q → q.1 ∈ L.map (·.1)
  len : L.length ≤ i
theorem Met.step {ks L L' : List (κ × Addr)} {i : Nat} {q : κ × Addr} (m : Met ks i L) (h : ks[i]? = some q) (c1 : q.1 ∈ L.map (·.1) → L' = L) (c2 : q.1 ∉ L.map (·.1) → L'.Perm (q :: L)) : Met ks (i + 1) L' := by
  have up : ∀ L'' : List (κ × Addr), (∀ x ∈ L.map (·.1), x ∈ L''.map (·.1)) → q.1 ∈ L''.map (·.1) → ∀ j r, j < i + 1 → ks[j]? = some r → r.1 ∈ L''.map (·.1) := fun L'' h1 h2 j r hj hr => by
    by_cases e : j = i
    · subst e; rw [h] at hr; cases hr; exact h2
    · exact h1 _ (m.all j r (by omega) hr)
  by_cases c : q.1 ∈ L.map (·.1)
  · rw [c1 c]
    exact ⟨m.of, up L (fun _ z => z) c, Nat.le_succ_of_le m.len⟩
  · have pm := c2 c
    have pk := pm.map (·.1)
    refine ⟨fun r hr => ?_, up L' (fun x hx => pk.mem_iff.mpr (List.mem_cons_of_mem _ hx)) (pk.mem_iff.mpr (List.mem_cons_self ..)), by rw [pm.length_eq]; exact Nat.succ_le_succ m.len⟩
    rcases List.mem_cons.mp (pm.mem_iff.mp hr) with e | e
    · rw [e]; exact List.mem_of_getElem? h
    · exact m.of r e
/-- set.update's loop, the keys by and by -/
theorem fill {I : Addr} {fp wr : List Addr} {G : Array GenState → Array GenState → Prop} {n : Nat} {Pv : Nat → Value → Prop} {St : Nat → Shared → Prop} {R : Result → Shared → Prop} (W : WalksS P w A.in1 I fp wr G n Pv St) (S : Addr) (hS : S ∉ fp) (ks : List (κ × Addr)) (hn : n = ks.length) (hfew : ks.length < 64)
    (hv : ∀ i v, Pv i v → ∃ q, ks[i]? = some q ∧ v = .ref q.2) (h0 : Heap) (hk : ∀ q ∈ ks, kd.is h0 q.1 q.2) (hS0 : h0.get? S = none) (hw0 : ∀ b ∈ wr, h0.get? b = none) (hA : kd.room A.in1) :
    ∀ (k i : Nat) (s : Shared), i + k = n → St i s → (∀ b o, h0.get? b = some o → s.heap.get? b = some o) → (∃ L es ep t, Keys kd s.heap S L es ep t ∧ Met ks i L) →
      (∀ s' L es ep t, Moved (S :: wr) G s s' → Keys kd s'.heap S L es ep t → Met ks n L → (∀ b o, h0.get? b = some o → s'.heap.get? b = some o) → R (.ok (.ret .none)) s') →
      codeAny (model P w) A (.builtin "set.update.loop" ⟨[.ref S, .ref I], []⟩) R s := by
  have hSw : S ∉ wr := fun h => hS (W.sub _ h)
  have wide : ∀ b ∈ wr, b ∈ S :: wr := fun b hb => List.mem_cons_of_mem _ hb
  have same : ∀ {s s' : Shared}, Moved wr G s s' → (∀ b o, h0.get? b = some o → s.heap.get? b = some o) → ∀ b o, h0.get? b = some o → s'.heap.get? b = some o := fun hm hkp b o e =>
    hm.heap b o (fun hb => by rw [hw0 b hb] at e; cases e) (hkp b o e)
  have still : ∀ {h' : Heap} {q : κ × Addr}, q ∈ ks → (∀ b o, h0.get? b = some o → h'.get? b = some o) → kd.is h' q.1 q.2 := fun hq kp => kd.stays (hk _ hq) fun b o _ _ e _ => kp b o e
  intro k
  induction k with
  | zero =>
    intro i s hi hst hkp ⟨L, es, ep, t, hL, m⟩ hR
    obtain rfl : i = n := by omega
    refine codeAny_builtin F.entry_set_update_loop ?_
    rw [Around.under_plainId F.plain_set_update_loop _]
    show wpAny _ A.in1 (pyNext (.ref I) >>= _) _ _ s
    refine wpAny_bind (W.done s _ _ hst fun s' hm => ?_)
    show wpAny _ A.in1 (ret Value.none) _ _ s'
    have kp := same hm hkp
    exact wpAny_pure (hR s' L es ep t (hm.mono wide) (hL.later (fun o e => hm.heap S o hSw e) fun q hq => still (m.of q hq) kp) m kp)
  | succ k ih =>
    intro i s hi hst hkp ⟨L, es, ep, t, hL, m⟩ hR
    refine codeAny_builtin F.entry_set_update_loop ?_
    rw [Around.under_plainId F.plain_set_update_loop _]
    show wpAny _ A.in1 (pyNext (.ref I) >>= _) _ _ s
    refine wpAny_bind (W.item i s _ _ (by omega) hst fun v s' hP hst' hm => ?_)
    obtain ⟨q, hq, rfl⟩ := hv i v hP
    have kp := same hm hkp
    have hL' : Keys kd s'.heap S L es ep t := hL.later (fun o e => hm.heap S o hSw e) fun r hr => still (m.of r hr) kp
    have hb := still (List.mem_of_getElem? hq) kp
    show wpAny _ A.in1 (holding [Value.ref q.2] (setAdd S (.ref q.2)) >>= _) _ _ s'
    refine wpAny_bind (wpAny_holding ?_)
    unfold setAdd
    refine wpAny_holding ?_
    refine wpAny_bind (kd.pyHash hA hb ?_)
    refine more (s := { s' with toks := s'.toks + kd.draws q.1 }) hL' hb hA (by have := m.len; omega) fun r h' L' es' ep' t' sb hN c1 c2 => ?_
    have m' := m.step hq c1 c2
    have kp2 : ∀ b o, h0.get? b = some o → h'.get? b = some o := fun b o e => (sb.2 b (fun z => by rw [z, hS0] at e; cases e)).trans (kp b o e)
    refine wpAny_pure ⟨plainId_quiet F.plain_set_update_loop _, ih (i + 1) _ (by omega) (W.frame _ s' _ _ hst' (Nat.le_add_right _ _) fun b hb o e => ?_) kp2 ⟨L', es', ep', t', hN, m'⟩ fun s2 L2 es2 ep2 t2 hm2 hL2 m2 kp3 => ?_⟩
    · rw [sb.2 b (fun z : b = S => hS (by rw [← z]; exact hb))]; exact e
    · refine hR s2 L2 es2 ep2 t2 (Moved.trans W.gtrans ((hm.mono wide).then_heap (Nat.le_add_right _ _) fun b o hb e => ?_) hm2) hL2 m2 kp3
      rw [sb.2 b (fun z : b = S => hb (by rw [z]; exact List.mem_cons_self))]; exact e
end
end Mx


/-! Mx24: the call set(xs). -/
namespace Mx
open PySem PySem.Spec PyProof.Rows L2
section
variable {P : Program} {w : World} {κ : Type} [DecidableEq κ] {kd : SKd P w κ} {A : Around} {E : Value → Shared → Prop} {s : Shared}
/-- the heap with the new set -/
abbrev withSet (w : World) (h : Heap) : Heap := h.push (bareSet w)
theorem call_set_keys {l : Addr} {items : Array Value} (ks : List (κ × Addr)) {Q : Value → Shared → Prop} (hh : A.handled = none) (hl : s.heap.IsList l items) (hit : items.toList = ks.map fun q => Value.ref q.2) (hk : ∀ q ∈ ks, kd.is s.heap q.1 q.2) (hfew : ks.length < 64) (hA : ∀ B : Around, B.units ≤ A.units + 8 → kd.room B)
    (h : ∀ (h' : Heap) (tk : Nat) L es ep t, Keys kd h' s.heap.objs.size L es ep t → Met ks ks.length L → (∀ b o, s.heap.get? b = some o → h'.get? b = some o) → Q (.ref s.heap.objs.size) { s with heap := h', toks := tk }) :
    wpAny (model P w) A (call (.type "set") [.ref l]) Q E s := by
  have hn : items.size = ks.length := by rw [← Array.length_toList, hit, List.length_map]
  obtain ⟨c, tl, hmro⟩ := F.called_set.mro
  have hmade := F.called_set.made
  have hsub := F.called_set.sub
  refine wpAny_call (codeAny_of_tree ?_)
  show wpAny _ _ (callAny (.type "set") _) _ _ _
  refine wpAny_pure ⟨Code.quiet_builtin _ (by decide +kernel), codeAny_builtin F.entry_type_call ?_⟩
  rw [Around.under_plain (weight_type_call_type "set" [.ref l] []) rfl]
  have h1 := F.called_set.notType
  have h2 := F.called_set.canCreate
  have hct := F.typeCall_set_1 (.ref l)
  repeat (any_goals (first | assumption | wp_step))
  refine codeAny_mono (code_set_led1 (.ref l) (E := E) (Q₁ := fun obj s₁ => obj = .ref s.heap.objs.size ∧ s₁ = { s with heap := withSet w s.heap }) ⟨rfl, rfl⟩) fun r s₁ hr => ?_
  cases r with
  | error e => exact hr
  | ok fl =>
    cases fl with
    | ret obj =>
      obtain ⟨rfl, rfl⟩ := hr
      have hS : (withSet w s.heap).get? s.heap.objs.size = some (bareSet w) := Heap.get?_push_size _ rfl
      have hT : Shared.TypeIs { s with heap := withSet w s.heap } (.ref s.heap.objs.size) "set" := ⟨_, hS, rfl⟩
      have hli := F.called_set.init.lookup
      have hbi := F.called_set.init.bind (.ref s.heap.objs.size)
      repeat (any_goals (first | assumption | wp_step))
      refine codeAny_mono (codeAny_call_builtin (R := wants (fun r s₂ => r = .none ∧ ∃ h' tk L es ep t, s₂ = { s with heap := h', toks := tk } ∧ Keys kd h' s.heap.objs.size L es ep t ∧ Met ks ks.length L ∧ (∀ b o, s.heap.get? b = some o → h'.get? b = some o)) E) F.called_set.init.plain F.entry_set_init (check_set_init_1 hT ?_)) fun r₂ s₂ hr₂ => ?_
      · obtain ⟨ol, hol, hcl, nl, hdl⟩ := hl
        obtain ⟨ocls, odict, odata, oslots⟩ := ol
        simp only at hcl hdl
        subst hcl; subst hdl
        have hol' : (withSet w s.heap).get? l = some { cls := .type "list", dict := odict, data := .seq items nl, slots := oslots } := Heap.get?_push_of_some _ hol
        have hsls := F.sub_list_set
        have hslf := F.sub_list_frozenset
        have hne : (Value.type "list" == Value.type "dict") = false := by decide
        have hl1 : (withSet w s.heap).IsList l items := ⟨_, hol', rfl, nl, rfl⟩
        unfold Builtin.«set.__init__» noKeywords Builtin.Frozenset.updateFrom
        generalize hPI : pyIter = PI
        wp_walk
        subst hPI
        refine wpAny_pyIter_list hl1 ?_
        refine wpAny_bind (wpAny_runValue ?_)
        have llt : l < s.heap.objs.size := Heap.lt_size hol
        have handled3 : A.in1.in1.in1.handled = none := by simp [hh]
        have size1 : (withSet w s.heap).objs.size = s.heap.objs.size + 1 := Heap.size_push ..
        have free : ∀ b, s.heap.objs.size ≤ b → s.heap.get? b = none := fun b hb => by
          cases q : s.heap.get? b with
          | none => rfl
          | some o => exact absurd (Nat.lt_of_lt_of_le (Heap.lt_size q) hb) (Nat.lt_irrefl _)
        refine fill (kd := kd) ((Walks.list handled3 _ l (by rw [size1]; exact Nat.ne_of_lt (Nat.lt_succ_of_lt llt)) items).toS) s.heap.objs.size (by
            rw [size1]
            simp only [List.mem_cons, List.mem_singleton, List.not_mem_nil, or_false, not_or]
            exact ⟨Nat.ne_of_lt (Nat.lt_succ_self _), Nat.ne_of_gt llt⟩) ks hn hfew (fun i v hv => ?_) s.heap hk (free _ (Nat.le_refl _)) (fun b hb => free b (by
            rw [List.mem_singleton.mp hb, size1]
            exact Nat.le_succ _)) (hA _ ?hu) items.size 0 _ (by omega)
          ⟨⟨_, Heap.get?_push_size _ rfl, rfl, rfl⟩, (hl1.push _)⟩ (fun b o e => Heap.get?_push_of_some _ (Heap.get?_push_of_some _ e)) ?hS0 ?hR
        · have q : items.toList[i]? = some v := by rw [Array.getElem?_toList]; exact hv
          rw [hit, List.getElem?_map] at q
          cases hq : ks[i]? with
          | none => rw [hq] at q; cases q
          | some p =>
            rw [hq] at q
            exact ⟨p, rfl, (Option.some.inj q).symm⟩
        case hu =>
          show A.units + 3 ≤ A.units + 8
          omega
        case hS0 =>
          exact ⟨[], #[], 0, _, Keys.bare (Heap.get?_push_of_some _ hS), ⟨fun q hq => (by cases hq), fun j q hj => absurd hj (Nat.not_lt_zero _), Nat.le_refl _⟩⟩
        case hR =>
          intro s' L es ep t hm hL m kp
          obtain ⟨h', g2, d', tk', os'⟩ := s'
          have eg : g2 = s.gens := hm.gens
          have ed : d' = s.drawn := hm.drawn
          have eo : os' = s.os := hm.os
          subst eg; subst ed; subst eo
          show wpAny _ _ _ _ _ _
          refine wpAny_pure ?_
          show wpAny _ _ (ret Value.none) _ _ _
          rw [hn] at m
          exact wpAny_pure ⟨rfl, h', tk', L, es, ep, t, rfl, hL, m, kp⟩
      · cases r₂ with
        | error e => exact hr₂
        | ok fl₂ =>
          cases fl₂ with
          | ret r =>
            obtain ⟨rfl, h', tk, L, es, ep, t, rfl, hL, m, kp⟩ := hr₂
            repeat (any_goals (first | assumption | wp_step))
            exact h _ _ _ _ _ _ hL m kp
          | _ => exact hr₂.elim
    | _ => exact hr.elim
end
end Mx


/-! Mx25: which nested keys sorting compares, and how. -/
namespace Mx
open PySem PySem.Spec PyProof.Rows L2 PySem.W PySem.SeqAt
abbrev Tks := List (Int ⊕ List Nat)
mutual
def tkK : NestedKey → Tks
  | .none => []
  | .num i => [.inl i]
  | .text x => [.inr x.cps.toList]
  | .tup ks => tkKs ks
def tkKs : List NestedKey → Tks
  | [] => [.inl 0]
  | k :: ks => .inl 1 :: (tkK k ++ tkKs ks)
end
mutual
/-- two keys that < takes, neither the other -/
def okK : NestedKey → NestedKey → Bool
  | .num _, .num _ => true
  | .text _, .text _ => true
  | .tup as, .tup bs => okKs as bs
  | _, _ => false
def okKs : List NestedKey → List NestedKey → Bool
  | a :: as, b :: bs => if NestedKey.beq a b = true then okKs as bs else okK a b
  | [], _ => true
  | _ :: _, [] => true
end
abbrev ltT (a b : Tks) : Bool := lexLt itemOrd a b
theorem ltT_self (p : Int ⊕ List Nat) (a b : Tks) : ltT (p :: a) (p :: b) = ltT a b := lex_self (O := itemOrd) p a b
theorem ltT_pre : ∀ (p a b : Tks), ltT (p ++ a) (p ++ b) = ltT a b
  | [], _, _ => rfl
  | x :: p, a, b => (ltT_self x (p ++ a) (p ++ b)).trans (ltT_pre p a b)
theorem ltT_atom {p q : Int ⊕ List Nat} (h : p ≠ q) (l m : Tks) : ltT (p :: l) (q :: m) = ltT [p] [q] := (lex_diff (O := itemOrd) h).trans (lex_diff (O := itemOrd) h).symm
mutual
/-- what is compared is told ahead of what follows -/
theorem tk_ahead : ∀ (x y : NestedKey), okK x y = true → NestedKey.beq x y = false → ∀ l m, ltT (tkK x ++ l) (tkK y ++ m) = ltT (tkK x) (tkK y)
  | .num a, .num b, _, h, l, m => ltT_atom (fun e => by cases e; rw [NestedKey.beq_self] at h; cases h) l m
  | .text a, .text b, _, h, l, m => ltT_atom (fun e => by
      have e2 : a = b := str_of_cps (Sum.inr.inj e)
      rw [e2, NestedKey.beq_self] at h; cases h) l m
  | .tup as, .tup bs, ok, h, l, m => by
    unfold tkK
    exact tks_ahead as bs (by simpa [okK] using ok) (by simpa [NestedKey.beq] using h) l m
  | .none, _, ok, _, _, _ => by simp [okK] at ok
  | .num _, .none, ok, _, _, _ => by simp [okK] at ok
  | .num _, .text _, ok, _, _, _ => by simp [okK] at ok
  | .num _, .tup _, ok, _, _, _ => by simp [okK] at ok
  | .text _, .none, ok, _, _, _ => by simp [okK] at ok
  | .text _, .num _, ok, _, _, _ => by simp [okK] at ok
  | .text _, .tup _, ok, _, _, _ => by simp [okK] at ok
  | .tup _, .none, ok, _, _, _ => by simp [okK] at ok
  | .tup _, .num _, ok, _, _, _ => by simp [okK] at ok
  | .tup _, .text _, ok, _, _, _ => by simp [okK] at ok
theorem tks_ahead : ∀ (xs ys : List NestedKey), okKs xs ys = true → NestedKey.beqAll xs ys = false → ∀ l m, ltT (tkKs xs ++ l) (tkKs ys ++ m) = ltT (tkKs xs) (tkKs ys)
  | [], [], _, h, _, _ => by simp [NestedKey.beqAll] at h
  | [], y :: ys, _, _, l, m => by
    unfold tkKs
    rw [List.cons_append, List.cons_append]
    exact (ltT_atom (by simp) _ _).trans (ltT_atom (p := .inl 0) (q := .inl 1) (by simp) [] (tkK y ++ tkKs ys)).symm
  | x :: xs, [], _, _, l, m => by
    unfold tkKs
    rw [List.cons_append, List.cons_append]
    exact (ltT_atom (by simp) _ _).trans (ltT_atom (p := .inl 1) (q := .inl 0) (by simp) (tkK x ++ tkKs xs) []).symm
  | x :: xs, y :: ys, ok, h, l, m => by
    unfold okKs at ok
    unfold NestedKey.beqAll at h
    unfold tkKs
    rw [List.cons_append, List.cons_append, ltT_self, ltT_self, List.append_assoc, List.append_assoc]
    cases e : NestedKey.beq x y with
    | true =>
      rw [e] at ok h
      rw [NestedKey.eq_of_beq x y e, ltT_pre, ltT_pre]
      exact tks_ahead xs ys ok (by simpa using h) l m
    | false =>
      rw [e] at ok
      rw [tk_ahead x y (by simpa using ok) e, tk_ahead x y (by simpa using ok) e]
end
theorem tk_inj {x y : NestedKey} (ok : okK x y = true) (h : tkK x = tkK y) : x = y := by
  cases e : NestedKey.beq x y with
  | true => exact NestedKey.eq_of_beq x y e
  | false =>
    have a := tk_ahead x y ok e [] [.inl 0]
    rw [h, ltT_pre] at a
    rw [show ltT (tkK y) (tkK y) = false from lex_irrefl (O := itemOrd) _] at a
    exact absurd a (by decide)
mutual
/-- the value is the key, no truth in the place of a whole -/
inductive SIs (h : Heap) : NestedKey → Value → Prop
  | none : SIs h .none .none
  | int (i t) : SIs h (.num i) (.int i t)
  | text (x t) : SIs h (.text x) (.str x t)
  | tup {a o vs n ks} : h.get? a = some o → o.cls = .type "tuple" → o.data = .seq vs n → SAll h ks vs.toList → SIs h (.tup ks) (.ref a)
inductive SAll (h : Heap) : List NestedKey → List Value → Prop
  | nil : SAll h [] []
  | cons {k v ks vs} : SIs h k v → SAll h ks vs → SAll h (k :: ks) (v :: vs)
end
mutual
theorem SIs.nest {h : Heap} : ∀ {k : NestedKey} {v : Value}, SIs h k v → NestedIs h k v
  | _, _, .none => .none
  | _, _, .int i t => .int i t
  | _, _, .text x t => .text x t
  | _, _, .tup a b c d => .tup a b c d.nest
theorem SAll.nest {h : Heap} : ∀ {ks : List NestedKey} {vs : List Value}, SAll h ks vs → NestedAll h ks vs
  | _, _, .nil => .nil
  | _, _, .cons a b => .cons a.nest b.nest
end
end Mx


/-! Mx26: < of tuples whose first unlike items can be compared. -/
namespace Mx
open PySem PySem.Spec PyProof.Rows L2 PySem.W PySem.SeqAt
/-- the pairs from the left: alike, or the first unlike ones, of which < says r; fin where all are alike -/
inductive LexAt (A : Around) (s : Shared) (fin : Bool) : List (Value × Value) → Bool → Prop
  | nil : LexAt A s fin [] fin
  | same {p q l r} : EqAt A s p q true → LexAt A s fin l r → LexAt A s fin ((p, q) :: l) r
  | diff {p q l r} : EqAt A s p q false → RcLt A s p q r → LexAt A s fin ((p, q) :: l) r
theorem tup_less (l b : Addr) (items items2 : Array Value) (n n2 : Nat) (dd dd2 : Option Addr) (sl sl2 : Array (Option Value)) (r : Bool) :
    Meets (Builtin.«tuple.__lt__» ⟨[.ref l, .ref b], []⟩) (fun A R s => s.heap.get? l = some { cls := .type "tuple", dict := dd, data := .seq items n, slots := sl } ∧ s.heap.get? b = some { cls := .type "tuple", dict := dd2, data := .seq items2 n2, slots := sl2 } ∧
      LexAt A.in1 s (decide (items.size < items2.size)) (items.toList.zip items2.toList) r ∧ R (.ok (.ret (.bool r))) s) :=
  .of_wp fun prog w A R s h => by
    obtain ⟨hp, g, d, tk, os⟩ := s
    obtain ⟨hl, hb, lex, hR⟩ := h
    have f2 := AutoSeq1.sub_tuple_tuple
    wp_walk using wpAny_loadPart' hl, wpAny_loadPart' hb, wpAny_forIn_list _ (fun rest b s' => b.1 = none ∧ s' = ⟨hp, g, d, tk, os⟩ ∧ LexAt A.in1 ⟨hp, g, d, tk, os⟩ (decide (items.size < items2.size)) rest r) _
    case turn =>
      rintro ⟨y, x⟩ rest b s' ⟨hb', rfl, lx⟩
      cases lx with
      | same e more =>
        refine wpAny_bind (e prog w _ _ ?_)
        wp_walk
        exact ⟨rfl, rfl, more⟩
      | diff e less =>
        refine wpAny_bind (e prog w _ _ ?_)
        simp only [Bool.not_false, if_true]
        refine wpAny_bind ?_
        refine wpAny_rule ?_
        refine wpAny_bind ?_
        refine less prog w _ _ ?_
        wp_walk
        exact ⟨_, rfl, hR⟩
    case fin =>
      rintro ⟨b1, b2⟩ s' ⟨hb', rfl, lx⟩
      simp only at hb'
      subst hb'
      cases lx
      wp_walk
      exact ⟨_, rfl, by simpa [Builtin.Tuple.tupleCompareSizes] using hR⟩
    case h =>
      exact ⟨rfl, rfl, lex⟩
section
variable {A : Around} {s : Shared}
theorem less_tups {l b : Addr} {items items2 : Array Value} {r : Bool} (hl : s.heap.IsTuple l items) (hb : s.heap.IsTuple b items2) (hu : A.units < cLine) (lex : LexAt A.in1 s (decide (items.size < items2.size)) (items.toList.zip items2.toList) r) : RcLt A s (.ref l) (.ref b) r := fun prog w E Q h => by
  obtain ⟨⟨cls, dd, data, sl⟩, ho, hc, n, hd⟩ := id hl
  obtain ⟨⟨cls2, dd2, data2, sl2⟩, ho2, hc2, n2, hd2⟩ := id hb
  simp only at hc hd hc2 hd2
  subst hc hd hc2 hd2
  exact richCompare_meets_room (op := .Lt) ⟨_, ho, rfl⟩ ⟨_, ho2, rfl⟩ F.slot_tuple_lt F.entry_tuple_lt (F.args_tuple_lt_2 _ _) (tup_less l b items items2 n n2 dd dd2 sl sl2 r) ⟨ho, ho2, lex, show Value.bool r ≠ Value.notImplemented ∧ Q (.bool r) s from ⟨(fun x => nomatch x), h⟩⟩ hu
/-- the call of tuple's own __lt__ -/
theorem call_less {prog : Program} {w : World} {E : Value → Shared → Prop} {Q : Value → Shared → Prop} {l b : Addr} {items items2 : Array Value} {r : Bool} (hl : s.heap.IsTuple l items) (hb : s.heap.IsTuple b items2) (lex : LexAt A.in1 s (decide (items.size < items2.size)) (items.toList.zip items2.toList) r) (h : Q (.bool r) s) :
    wpAny (model prog w) A (call (.builtin "tuple.__lt__") [.ref l, .ref b]) Q E s := by
  obtain ⟨⟨cls, dd, data, sl⟩, ho, hc, n, hd⟩ := id hl
  obtain ⟨⟨cls2, dd2, data2, sl2⟩, ho2, hc2, n2, hd2⟩ := id hb
  simp only at hc hd hc2 hd2
  subst hc hd hc2 hd2
  exact call_meets F.slot_tuple_lt ⟨_, ho, rfl⟩ F.entry_tuple_lt (F.args_tuple_lt_2 _ _) (tup_less l b items items2 n n2 dd dd2 sl sl2 r) ⟨ho, ho2, lex, h⟩
end
theorem tks_cons (k : NestedKey) (ks : List NestedKey) : tkKs (k :: ks) = .inl 1 :: (tkK k ++ tkKs ks) := by rw [tkKs]
mutual
/-- < of two keys that can be compared -/
theorem less_key : ∀ (x y : NestedKey) (A : Around) (s : Shared) (a b : Value), SIs s.heap x a → SIs s.heap y b → okK x y = true → A.units + min x.depth y.depth < cLine → RcLt A s a b (ltT (tkK x) (tkK y))
  | .num i, .num j, A, s, _, _, ra, rb, _, _ => by
    cases ra
    cases rb
    intro prog w E Q hq
    have e : ltT (tkK (.num i)) (tkK (.num j)) = decide (i < j) := lex_one _ _
    rw [e] at hq
    exact PySem.P.lt_int hq
  | .text x, .text y, A, s, _, _, ra, rb, _, _ => by
    cases ra
    cases rb
    intro prog w E Q hq
    have e : ltT (tkK (.text x)) (tkK (.text y)) = decide (x.cps.toList < y.cps.toList) := lex_one _ _
    rw [e] at hq
    exact PySem.P.lt_str hq
  | .tup as, .tup bs, A, s, _, _, ra, rb, ok, hu => by
    cases ra with
    | @tup l o vs n _ h1 h2 h3 h4 =>
      cases rb with
      | @tup l' o' vs' n' _ k1 k2 k3 k4 =>
        have n1 : vs.size = as.length := by simpa using NestedAll.length _ _ h4.nest
        have n2 : vs'.size = bs.length := by simpa using NestedAll.length _ _ k4.nest
        refine less_tups ⟨_, h1, h2, _, h3⟩ ⟨_, k1, k2, _, k3⟩ (room_here hu) ?_
        rw [n1, n2]
        exact less_keys as bs A.in1 s vs.toList vs'.toList h4 k4 (by simpa [okK] using ok) (room_in hu)
  | .none, _, _, _, _, _, _, _, ok, _ => by simp [okK] at ok
  | .num _, .none, _, _, _, _, _, _, ok, _ => by simp [okK] at ok
  | .num _, .text _, _, _, _, _, _, _, ok, _ => by simp [okK] at ok
  | .num _, .tup _, _, _, _, _, _, _, ok, _ => by simp [okK] at ok
  | .text _, .none, _, _, _, _, _, _, ok, _ => by simp [okK] at ok
  | .text _, .num _, _, _, _, _, _, _, ok, _ => by simp [okK] at ok
  | .text _, .tup _, _, _, _, _, _, _, ok, _ => by simp [okK] at ok
  | .tup _, .none, _, _, _, _, _, _, ok, _ => by simp [okK] at ok
  | .tup _, .num _, _, _, _, _, _, _, ok, _ => by simp [okK] at ok
  | .tup _, .text _, _, _, _, _, _, _, ok, _ => by simp [okK] at ok
theorem less_keys : ∀ (xs ys : List NestedKey) (A : Around) (s : Shared) (vs ws : List Value), SAll s.heap xs vs → SAll s.heap ys ws → okKs xs ys = true → A.units + min (NestedKey.depthAll xs) (NestedKey.depthAll ys) < cLine →
    LexAt A s (decide (xs.length < ys.length)) (vs.zip ws) (ltT (tkKs xs) (tkKs ys))
  | [], [], _, _, _, _, ra, rb, _, _ => by
    cases ra
    cases rb
    have e : ltT (tkKs []) (tkKs []) = false := lex_irrefl (O := itemOrd) _
    rw [e]
    exact .nil
  | [], y :: ys, _, _, _, _, ra, rb, _, _ => by
    cases ra
    have e : ltT (tkKs []) (tkKs (y :: ys)) = true := (lex_diff (O := itemOrd) (by simp)).trans rfl
    rw [e, List.zip_nil_left]
    exact .nil
  | x :: xs, [], _, _, _, _, ra, rb, _, _ => by
    cases rb
    have e : ltT (tkKs (x :: xs)) (tkKs []) = false := (lex_diff (O := itemOrd) (by simp)).trans rfl
    rw [e, List.zip_nil_right]
    exact .nil
  | x :: xs, y :: ys, A, s, _, _, ra, rb, ok, hu => by
    cases ra with
    | cons r rs =>
      cases rb with
      | cons r' rs' =>
        have heq := eqAt_key x y A s _ _ r.nest r'.nest (room_head hu)
        unfold okKs at ok
        have elen : decide ((x :: xs).length < (y :: ys).length) = decide (xs.length < ys.length) := by simp
        rw [List.zip_cons_cons, elen]
        cases e : NestedKey.beq x y with
        | true =>
          rw [e] at ok heq
          have e2 : ltT (tkKs (x :: xs)) (tkKs (y :: ys)) = ltT (tkKs xs) (tkKs ys) := by
            rw [tks_cons, tks_cons, ltT_self, NestedKey.eq_of_beq x y e, ltT_pre]
          rw [e2]
          exact .same heq (less_keys xs ys A s _ _ rs rs' (by simpa using ok) (room_tail hu))
        | false =>
          rw [e] at ok heq
          have ok' : okK x y = true := by simpa using ok
          have e2 : ltT (tkKs (x :: xs)) (tkKs (y :: ys)) = ltT (tkK x) (tkK y) := by
            rw [tks_cons, tks_cons, ltT_self, tk_ahead x y ok' e]
          rw [e2]
          exact .diff heq (less_key x y A s _ _ r r' ok' (room_head hu))
end
end Mx


/-! Mx27: tuples that can be compared with each other can be sorted. -/
namespace Mx
open PySem PySem.Spec PyProof.Rows L2 PySem.W PySem.SeqAt
section
variable {prog : Program} {w : World} {A : Around} {E : Value → Shared → Prop} {s : Shared}
/-- as sorting compares, whether by the class's own word or by the operator -/
theorem one_less {x y : NestedKey} {a b : Value} (f : Bool) (ra : SIs s.heap x a) (rb : SIs s.heap y b) (ok : okK x y = true) (hu : A.units + min x.depth y.depth < cLine) {Q : Bool → Shared → Prop} (hq : Q (ltT (tkK x) (tkK y)) s) : wpAny (model prog w) A (oneLt' f a b) Q E s := by
  cases f with
  | false =>
    rw [oneLt'_eq]
    simp only [Bool.false_eq_true, if_false]
    exact wpAny_bind (less_key x y A s a b ra rb ok hu prog w E _ (wpAny_truthy_bool hq))
  | true =>
    cases x with
    | none => simp [okK] at ok
    | num i =>
      cases y with
      | num j =>
        cases ra
        cases rb
        rw [show ltT (tkK (.num i)) (tkK (.num j)) = decide (i < j) from lex_one _ _] at hq
        exact oneLt_int hq
      | _ => simp [okK] at ok
    | text u =>
      cases y with
      | text v =>
        cases ra
        cases rb
        rw [show ltT (tkK (.text u)) (tkK (.text v)) = decide (u.cps.toList < v.cps.toList) from lex_one _ _] at hq
        exact oneLt_str hq
      | _ => simp [okK] at ok
    | tup as =>
      cases y with
      | tup bs =>
        cases ra with
        | @tup l o vs n _ h1 h2 h3 h4 =>
          cases rb with
          | @tup l' o' vs' n' _ k1 k2 k3 k4 =>
            have n1 : vs.size = as.length := by simpa using NestedAll.length _ _ h4.nest
            have n2 : vs'.size = bs.length := by simpa using NestedAll.length _ _ k4.nest
            rw [oneLt'_eq]
            simp only [if_true]
            refine wpAny_bind (wpAny_cRoomFor (room_here hu) ?_)
            refine wpAny_bind (wpAny_callSpecialIfBound?_slot (T := "tuple") ⟨_, h1, h2⟩ F.slot_tuple_lt (call_less (r := ltT (tkKs as) (tkKs bs)) ⟨_, h1, h2, _, h3⟩ ⟨_, k1, k2, _, k3⟩ ?_ ?_))
            · rw [n1, n2]
              exact less_keys as bs A.in1 s vs.toList vs'.toList h4 k4 (by simpa [okK] using ok) (room_in hu)
            · exact wpAny_truthy_bool hq
      | _ => simp [okK] at ok
/-- as sorting compares tuples item by item -/
theorem kat_keys {b : Bool} {Q : Bool → Shared → Prop} : ∀ (xs ys : List NestedKey) (i : Nat) (vs ws : List Value), SAll s.heap xs vs → SAll s.heap ys ws → okKs xs ys = true → A.units + min (NestedKey.depthAll xs) (NestedKey.depthAll ys) < cLine → Q (ltT (tkKs xs) (tkKs ys)) s →
    KatLex prog w A b (decide (xs.length < ys.length)) Q (vs.zip ws) i s
  | [], [], _, _, _, ra, rb, _, _, hq => by
    cases ra
    cases rb
    rw [show ltT (tkKs []) (tkKs []) = false from lex_irrefl (O := itemOrd) _] at hq
    exact kat_nil hq
  | [], y :: ys, _, _, _, ra, rb, _, _, hq => by
    cases ra
    rw [show ltT (tkKs []) (tkKs (y :: ys)) = true from (lex_diff (O := itemOrd) (by simp)).trans rfl] at hq
    rw [List.zip_nil_left]
    exact kat_nil hq
  | x :: xs, [], _, _, _, ra, rb, _, _, hq => by
    cases rb
    rw [show ltT (tkKs (x :: xs)) (tkKs []) = false from (lex_diff (O := itemOrd) (by simp)).trans rfl] at hq
    rw [List.zip_nil_right]
    exact kat_nil hq
  | x :: xs, y :: ys, i, _, _, ra, rb, ok, hu, hq => by
    cases ra with
    | cons r rs =>
      cases rb with
      | cons r' rs' =>
        unfold okKs at ok
        have elen : decide ((x :: xs).length < (y :: ys).length) = decide (xs.length < ys.length) := by simp
        rw [List.zip_cons_cons, elen]
        rw [tks_cons, tks_cons, ltT_self] at hq
        refine kat_cons (eqAt_key x y A s _ _ r.nest r'.nest (room_head hu) prog w _ _ ?_)
        cases e : NestedKey.beq x y with
        | true =>
          rw [e] at ok
          rw [NestedKey.eq_of_beq x y e, ltT_pre] at hq
          exact kat_yes (kat_keys xs ys (i + 1) _ _ rs rs' (by simpa using ok) (room_tail hu) hq)
        | false =>
          rw [e] at ok
          have ok' : okK x y = true := by simpa using ok
          rw [tk_ahead x y ok' e] at hq
          exact kat_no (one_less _ r r' ok' (room_head hu) hq)
/-- the kind of keys that some nested keys are -/
noncomputable def keyKd (h : Heap) (ks : List NestedKey) : PyProof.Rows.KeyKind where
  toKeyOrd := listOrd itemOrd
  keyOf v := open Classical in if q : ∃ k, k ∈ ks ∧ SIs h k v then some (tkK q.choose) else none
  dflt := ([] : Tks)
theorem SIs.inj {h : Heap} {x y : NestedKey} {v : Value} (a : SIs h x v) (b : SIs h y v) : x = y := NestedIs.inj x y v a.nest b.nest
theorem keyKd_some {h : Heap} {ks : List NestedKey} {k : NestedKey} {v : Value} (hk : k ∈ ks) (r : SIs h k v) : (keyKd h ks).keyOf v = some (tkK k) := by
  have q : ∃ k, k ∈ ks ∧ SIs h k v := ⟨k, hk, r⟩
  have e : (keyKd h ks).keyOf v = some (tkK q.choose) := by
    show (open Classical in if q : ∃ k, k ∈ ks ∧ SIs h k v then some (tkK q.choose) else none) = _
    rw [dif_pos q]
  rw [e, q.choose_spec.2.inj r]
theorem keyKd_inv {h : Heap} {ks : List NestedKey} {v : Value} {t : Tks} (e : (keyKd h ks).keyOf v = some t) : ∃ k, k ∈ ks ∧ SIs h k v ∧ t = tkK k := by
  by_cases q : ∃ k, k ∈ ks ∧ SIs h k v
  · have e' : (keyKd h ks).keyOf v = some (tkK q.choose) := by
      show (open Classical in if q : ∃ k, k ∈ ks ∧ SIs h k v then some (tkK q.choose) else none) = _
      rw [dif_pos q]
    rw [e'] at e
    exact ⟨_, q.choose_spec.1, q.choose_spec.2, (Option.some.inj e).symm⟩
  · have e' : (keyKd h ks).keyOf v = none := by
      show (open Classical in if q : ∃ k, k ∈ ks ∧ SIs h k v then some (tkK q.choose) else none) = _
      rw [dif_neg q]
      rfl
    rw [e'] at e
    exact absurd e (by simp)
/-- tuples, each of which can be compared with each -/
structure AllOk (A : Around) (ks : List NestedKey) : Prop where
  tup : ∀ k ∈ ks, ∃ l, k = .tup l
  ok : ∀ k ∈ ks, ∀ k' ∈ ks, okK k k' = true
  room : ∀ k ∈ ks, A.units + k.depth < cLine
theorem lt_all {ks : List NestedKey} (ok : AllOk A ks) (kd : SortKind) (hkd : kd = general' ∨ kd = oneType' ∨ ∃ b, kd = tuples' b) : H.LtAt prog w A s (keyKd s.heap ks) kd := by
  intro E x y a b Q ha hb hq
  obtain ⟨k, hk, ra, rfl⟩ := keyKd_inv ha
  obtain ⟨k', hk', rb, rfl⟩ := keyKd_inv hb
  have o := ok.ok k hk k' hk'
  have room : A.units + min k.depth k'.depth < cLine := Nat.lt_of_le_of_lt (Nat.add_le_add_left (Nat.min_le_left _ _) _) (ok.room k hk)
  rcases hkd with rfl | rfl | ⟨b, rfl⟩
  · exact one_less false ra rb o room hq
  · exact one_less true ra rb o room hq
  · obtain ⟨xs, rfl⟩ := ok.tup k hk
    obtain ⟨ys, rfl⟩ := ok.tup k' hk'
    cases ra with
    | @tup l o1 vs n _ h1 h2 h3 h4 =>
      cases rb with
      | @tup l' o2 vs' n' _ k1 k2 k3 k4 =>
        have n1 : vs.size = xs.length := by simpa using NestedAll.length _ _ h4.nest
        have n2 : vs'.size = ys.length := by simpa using NestedAll.length _ _ k4.nest
        refine kat_lt h1 h3 k1 k3 ?_
        rw [n1, n2]
        exact kat_keys xs ys 0 _ _ h4 k4 (by simpa [okK] using o) (by have q := room_in room; omega) hq
end
end Mx


/-! Mx28: which kind of comparison a sort of tuples takes. -/
namespace Mx
open PySem PySem.Spec PyProof.Rows L2 PySem.W PySem.SeqAt
section
variable {M : Model} {A : Around} {E : Value → Shared → Prop} {s : Shared}
theorem mapM_to {α β : Type} {f : α → Sem β} {g : α → β} : ∀ (l : List α) {Q : List β → Shared → Prop}, (∀ v ∈ l, ∀ (Q' : β → Shared → Prop), Q' (g v) s → wpAny M A (f v) Q' E s) → Q (l.map g) s → wpAny M A (l.mapM f) Q E s
  | [], _, _, h => by rw [List.mapM_nil]; exact wpAny_pure h
  | x :: l, Q, hf, h => by
    rw [List.mapM_cons]
    exact wpAny_bind (hf x (.head _) _ (wpAny_bind (mapM_to l (Q := fun bs s' => wpAny M A (pure (g x :: bs)) Q E s') (fun v hv => hf v (.tail _ hv)) (wpAny_pure h))))
def itemsAt (h : Heap) : Value → Array Value
  | .ref a => match h.get? a with
    | some o => match o.data with
      | .seq vs _ => vs
      | _ => #[]
    | none => #[]
  | _ => #[]
def tyV : Value → Value
  | .none => .type "NoneType"
  | .int _ _ => .type "int"
  | .str _ _ => .type "str"
  | _ => .type "tuple"
theorem tyV_looks {k : NestedKey} {v : Value} (r : SIs s.heap k v) : Looks M s.heap (typeOf v) (tyV v) := by
  cases r with
  | none => exact Looks.of_pure rfl
  | int _ _ => exact Looks.of_pure rfl
  | text _ _ => exact Looks.of_pure rfl
  | tup h1 h2 h3 h4 =>
    show Looks M s.heap (typeOf (Value.ref _)) (Value.type "tuple")
    exact h2 ▸ (Looks.ld h1).andThen .now
theorem first_to {l : List NestedKey} {v : Value} (r : SIs s.heap (.tup l) v) {Q : Option Value → Shared → Prop} (h : Q ((itemsAt s.heap v)[0]?) s) : wpAny M A (firstOfTuple' v) Q E s := by
  have ty := tyV_looks (M := M) r
  cases r with
  | @tup a o xs n _ h1 h2 h3 h4 =>
    rw [kas_first_eq]
    refine wpAny_bind (ty.here ?_)
    rw [if_neg (by first | decide | simp [tyV])]
    refine wpAny_bind (listItems_at h1 h3 (wpAny_pure ?_))
    have e : itemsAt s.heap (.ref a) = xs := by
      show (match s.heap.get? a with
        | some o => match o.data with
          | .seq vs _ => vs
          | _ => #[]
        | none => #[]) = xs
      rw [h1]
      show (match o.data with | .seq vs _ => vs | _ => #[]) = xs
      rw [h3]
    rw [e] at h
    exact h
theorem SAll.get {h : Heap} : ∀ {ks : List NestedKey} {vs : List Value}, SAll h ks vs → ∀ v ∈ vs, ∃ k, SIs h k v
  | _, _, .nil, v, hv => by cases hv
  | _, _, .cons a b, v, hv => by
    rcases List.mem_cons.mp hv with e | hv
    · rw [e]; exact ⟨_, a⟩
    · exact b.get v hv
def oneTy (ts : List Value) : Option Value := match ts with
  | [] => none
  | t :: r => if (t :: r).toArray.all (· == t) then some t else none
theorem one_type {vs : List Value} (h : ∀ v ∈ vs, ∃ k, SIs s.heap k v) {Q : Option Value → Shared → Prop} (hq : Q (oneTy (vs.map tyV)) s) : wpAny M A (oneTypeOnly' vs.toArray) Q E s := by
  rw [oneTypeOnly'_eq, List.mapM_toArray, map_eq_pure_bind]
  refine wpAny_bind (wpAny_bind (mapM_to (g := tyV) vs (fun v hv Q' q => ?_) (wpAny_pure ?_)))
  · obtain ⟨k, r⟩ := h v hv
    exact (tyV_looks r).here q
  · cases vs with
    | nil => exact wpAny_pure hq
    | cons v vs => exact wpAny_pure hq
theorem item_of {l : List NestedKey} {v f : Value} (r : SIs s.heap (.tup l) v) (h : (itemsAt s.heap v)[0]? = some f) : ∃ k, SIs s.heap k f := by
  cases r with
  | @tup a o xs n _ h1 h2 h3 h4 =>
    have e : itemsAt s.heap (.ref a) = xs := by
      show (match s.heap.get? a with
        | some o => match o.data with
          | .seq vs _ => vs
          | _ => #[]
        | none => #[]) = xs
      rw [h1]
      show (match o.data with | .seq vs _ => vs | _ => #[]) = xs
      rw [h3]
    rw [e] at h
    exact h4.get f (by rw [← Array.getElem?_toList] at h; exact List.mem_of_getElem? h)
theorem kind_ex {vs : List Value} (hv : ∀ v ∈ vs, ∃ l, SIs s.heap (.tup l) v) (h2 : 2 ≤ vs.length) : ∃ kd, (kd = general' ∨ kd = oneType' ∨ ∃ b, kd = tuples' b) ∧ ∀ (E : Value → Shared → Prop) {Q : SortKind → Shared → Prop}, Q kd s → wpAny M A (keyKind' vs.toArray) Q E s := by
  have start : ∀ (E : Value → Shared → Prop) {Q : SortKind → Shared → Prop}, wpAny M A (do
      if ((vs.map fun v => (itemsAt s.heap v)[0]?).toArray.all (·.isSome)) = true then do
        rule "list.sort.keys-are-tuples"
        return tuples' ((← oneTypeOnly' ((vs.map fun v => (itemsAt s.heap v)[0]?).toArray.filterMap id)).any (· != .type "tuple"))
      else if (((vs.map fun v => (itemsAt s.heap v)[0]?).toArray[0]?.bind id).isSome) = true then return general'
      else return if (← oneTypeOnly' vs.toArray).isSome then oneType' else general') Q E s → wpAny M A (keyKind' vs.toArray) Q E s := by
    intro E Q h
    rw [kat_kind_eq, List.mapM_toArray, map_eq_pure_bind]
    refine wpAny_bind (wpAny_bind (mapM_to (g := fun v => (itemsAt s.heap v)[0]?) vs (fun v hv' Q' hq => ?_) (wpAny_pure ?_)))
    · obtain ⟨l, r⟩ := hv v hv'
      exact first_to r hq
    · exact h
  by_cases hall : ((vs.map fun v => (itemsAt s.heap v)[0]?).toArray.all (·.isSome)) = true
  · refine ⟨tuples' ((oneTy ((vs.filterMap fun v => (itemsAt s.heap v)[0]?).map tyV)).any (· != .type "tuple")), .inr (.inr ⟨_, rfl⟩), fun E Q hq => start E ?_⟩
    rw [if_pos hall]
    refine wpAny_bind (wpAny_rule ?_)
    have e : ((vs.map fun v => (itemsAt s.heap v)[0]?).toArray.filterMap id) = (vs.filterMap fun v => (itemsAt s.heap v)[0]?).toArray := by
      rw [List.filterMap_toArray, List.filterMap_map]
      rfl
    rw [e]
    refine wpAny_bind (one_type (fun f hf => ?_) (wpAny_pure hq))
    obtain ⟨v, hv', e2⟩ := List.mem_filterMap.mp hf
    obtain ⟨l, r⟩ := hv v hv'
    exact item_of r e2
  · by_cases h0 : (((vs.map fun v => (itemsAt s.heap v)[0]?).toArray[0]?.bind id).isSome) = true
    · refine ⟨general', .inl rfl, fun E Q hq => start E ?_⟩
      rw [if_neg hall, if_pos h0]
      exact wpAny_pure hq
    · refine ⟨oneType', .inr (.inl rfl), fun E Q hq => start E ?_⟩
      rw [if_neg hall, if_neg h0]
      refine wpAny_bind (one_type (fun v hv' => (hv v hv').elim fun l r => ⟨_, r⟩) ?_)
      have e : (oneTy (vs.map tyV)).isSome = true := by
        have all : vs.map tyV = vs.map fun _ => Value.type "tuple" := List.map_congr_left fun v hv' => by
          obtain ⟨l, r⟩ := hv v hv'
          cases r
          rfl
        rw [all]
        cases vs with
        | nil => simp at h2
        | cons v vs =>
          show (if ((List.map (fun _ => Value.type "tuple") (v :: vs)).toArray.all (· == Value.type "tuple")) = true then some (Value.type "tuple") else none).isSome = true
          rw [if_pos (by
            simp only [List.all_toArray, List.all_map, List.all_eq_true]
            intro _ _
            exact beq_self_eq_true _)]
          rfl
      rw [if_pos e]
      exact wpAny_pure hq
end
/-- tuples that can be compared with each other can be sorted -/
theorem sorts_ok {prog : Program} {w : World} {A : Around} {s : Shared} {ks : List NestedKey} {vs : List Value} (ok : AllOk A ks) (hv : ∀ v ∈ vs, ∃ k ∈ ks, SIs s.heap k v) : SortsAt prog w A s (keyKd s.heap ks) vs := by
  refine ⟨fun v h => ?_, ?_⟩
  · obtain ⟨k, hk, r⟩ := hv v h
    exact ⟨_, keyKd_some hk r⟩
  · by_cases h2 : 2 ≤ vs.length
    · obtain ⟨kd, h1, h3⟩ := kind_ex (M := model prog w) (A := A) (s := s) (vs := vs) (fun v h => by
        obtain ⟨k, hk, r⟩ := hv v h
        obtain ⟨l, rfl⟩ := ok.tup k hk
        exact ⟨l, r⟩) h2
      exact ⟨kd, lt_all ok kd h1, fun _ E Q hq => h3 E hq⟩
    · exact ⟨general', lt_all ok _ (.inl rfl), fun h => absurd h h2⟩
end Mx


/-! Mx29: sorted(set), the set one of tuples that can be compared. -/
namespace Mx
open PySem PySem.Spec PyProof.Rows L2 PySem.W PySem.SeqAt
/-- the order of nested keys -/
abbrev leK {α : Type} (k : α → NestedKey) : α → α → Bool := sortLe (listOrd itemOrd) false fun x => tkK (k x)
theorem leK_anti {a b : NestedKey} (ok : okK a b = true) (h1 : leK id a b = true) (h2 : leK id b a = true) : a = b := by
  have e1 : ltT (tkK b) (tkK a) = false := by simpa [leK, sortLe] using h1
  have e2 : ltT (tkK a) (tkK b) = false := by simpa [leK, sortLe] using h2
  exact tk_inj ok ((lex_total (O := itemOrd) _ _ e2 e1))
theorem sorted_eq {α : Type} {le : α → α → Bool} (tr : ∀ a b c, le a b = true → le b c = true → le a c = true) (to : ∀ a b, (le a b || le b a) = true) {l m : List α} (p : l.Perm m) (an : ∀ a ∈ l, ∀ b ∈ l, le a b = true → le b a = true → a = b) : l.mergeSort le = m.mergeSort le := by
  have s1 := List.pairwise_mergeSort (le := le) tr to l
  have s2 := List.pairwise_mergeSort (le := le) tr to m
  have pm : (l.mergeSort le).Perm (m.mergeSort le) := (List.mergeSort_perm l le).trans (p.trans (List.mergeSort_perm m le).symm)
  have in1 : ∀ x ∈ l.mergeSort le, x ∈ l := fun x hx => (List.mergeSort_perm l le).mem_iff.mp hx
  have key : ∀ (u v : List α), u.Perm v → (∀ x ∈ u, x ∈ l) → u.Pairwise (fun a b => le a b = true) → v.Pairwise (fun a b => le a b = true) → u = v := by
    intro u
    induction u with
    | nil => intro v pv _ _ _; exact (List.nil_perm.mp pv).symm
    | cons x u ih =>
      intro v pv hin hu hv
      cases v with
      | nil => exact absurd (List.perm_nil.mp pv) (by simp)
      | cons y v =>
        obtain ⟨hx, hu'⟩ := List.pairwise_cons.mp hu
        obtain ⟨hy, hv'⟩ := List.pairwise_cons.mp hv
        have hyx : y ∈ l := hin y (pv.mem_iff.mpr (List.mem_cons_self ..))
        have hxl : x ∈ l := hin x (List.mem_cons_self ..)
        have refl : ∀ a, le a a = true := fun a => by simpa using to a a
        have h1 : le x y = true := by
          rcases List.mem_cons.mp (pv.mem_iff.mpr (List.mem_cons_self (a := y) (l := v))) with e | e
          · rw [e]; exact refl x
          · exact hx y e
        have h2 : le y x = true := by
          rcases List.mem_cons.mp (pv.mem_iff.mp (List.mem_cons_self (a := x) (l := u))) with e | e
          · rw [e]; exact refl y
          · exact hy x e
        have e := an x hxl y hyx h1 h2
        subst e
        rw [ih v (List.perm_cons x |>.mp pv) (fun z hz => hin z (List.mem_cons_of_mem _ hz)) hu' hv']
  exact key _ _ pm in1 s1 s2
mutual
theorem SIs.keep {h h' : Heap} (hk : ∀ a o, h.get? a = some o → h'.get? a = some o) : ∀ {k : NestedKey} {v : Value}, SIs h k v → SIs h' k v
  | _, _, .none => .none
  | _, _, .int i t => .int i t
  | _, _, .text x t => .text x t
  | _, _, .tup a b c d => .tup (hk _ _ a) b c (d.keep hk)
theorem SAll.keep {h h' : Heap} (hk : ∀ a o, h.get? a = some o → h'.get? a = some o) : ∀ {ks : List NestedKey} {vs : List Value}, SAll h ks vs → SAll h' ks vs
  | _, _, .nil => .nil
  | _, _, .cons a b => .cons (a.keep hk) (b.keep hk)
end
theorem perm_of_map {α β : Type} {f : α → β} : ∀ {ws vs : List β}, ws.Perm vs → ∀ L : List α, ws = L.map f → ∃ M : List α, M.Perm L ∧ vs = M.map f := by
  intro ws vs p
  induction p with
  | nil => intro L h; exact ⟨[], by cases L <;> simp_all, rfl⟩
  | cons x _ ih =>
    intro L h
    cases L with
    | nil => simp at h
    | cons y L =>
      rw [List.map_cons] at h
      injection h with h1 h2
      obtain ⟨M, h3, h4⟩ := ih L h2
      exact ⟨y :: M, h3.cons y, by rw [List.map_cons, h4, h1]⟩
  | swap x y l =>
    intro L h
    cases L with
    | nil => simp at h
    | cons a L =>
      cases L with
      | nil => simp at h
      | cons b L =>
        simp only [List.map_cons] at h
        injection h with h1 h2
        injection h2 with h2 h3
        exact ⟨b :: a :: L, List.Perm.swap .., by rw [List.map_cons, List.map_cons, ← h1, ← h2, ← h3]⟩
  | trans _ _ ih1 ih2 =>
    intro L h
    obtain ⟨M, h1, h2⟩ := ih1 L h
    obtain ⟨N, h3, h4⟩ := ih2 M h2
    exact ⟨N, h3.trans h1, h4⟩
section
variable {P : Program} {w : World} {A : Around} {E : Value → Shared → Prop} {s : Shared} {a : Addr} {L : List (NestedKey × Addr)} {es : Array (Int × Value)} {ep : Nat} {t : SetTable}
theorem each_refs {κ : PyProof.Rows.KeyKind} {R : Value → NestedKey × Addr → Prop} : ∀ (M : List (NestedKey × Addr)), (∀ q ∈ M, R (.ref q.2) q) → EachIs R (M.map fun q => Value.ref q.2) M
  | [], _ => .nil
  | q :: M, h => .cons (h q (List.mem_cons_self ..)) (each_refs (κ := κ) M fun r hr => h r (List.mem_cons_of_mem _ hr))
theorem each_back : ∀ {vs : List Value} {M : List (NestedKey × Addr)}, EachIs (fun v q => v = Value.ref q.2) vs M → vs = M.map fun q => Value.ref q.2
  | _, _, .nil => rfl
  | _, _, .cons h r => by rw [List.map_cons, ← each_back r, h]
theorem sorted_keys (R : Keys (nestKd P w) s.heap a L es ep t) (hS : ∀ q ∈ L, SIs s.heap q.1 (.ref q.2)) (hh : A.handled = none) (ok : AllOk A.in1.in1 (L.map (·.1))) {Q : Value → Shared → Prop}
    (hQ : ∀ s' p (out : Array Value) (c : Nat), (∀ b o, s.heap.get? b = some o → s'.heap.get? b = some o) → s'.gens = s.gens → s'.os = s.os → s.heap.objs.size ≤ p → s'.heap.get? p = some (seqObj "list" out c) → out.toList = (L.mergeSort (leK (·.1))).map (fun q => Value.ref q.2) → Q (.ref p) s') :
    wpAny (model P w) A (call (.builtin "sorted") [.ref a]) Q E s := by
  obtain ⟨o, ho, hx, hd⟩ := R.obj
  have few := R.few
  have el := ents_len R.ents
  refine Calls.call_function_entry kind_sorted plain_sorted entry_sorted (args_sorted1 _) ?_
  unfold Builtin.«sorted»
  refine wpAny_bind (m := checkCount "sorted" 1 1 _) (wpAny_pure ?_)
  refine wpAny_bind (collect_set (A := A.in1) hh ⟨o, ho, hx.1, hd⟩ R.wide (by unfold scanBound; omega) R.table.ris R.led fun s1 vs k1 hz g1 o1 pm => ?_)
  have hes : es.toList.map (·.2) = L.map fun q => Value.ref q.2 := by
    rw [R.ents]
    unfold entsOf
    rw [List.map_map]
    rfl
  rw [hes] at pm
  obtain ⟨M, pM, rfl⟩ := perm_of_map pm.symm L rfl
  have lM : M.length = L.length := pM.length_eq
  have hvl : (M.map fun q => Value.ref q.2).length ≤ sizeLine := by rw [List.length_map, sizeLine_eq]; omega
  refine wpAny_bind (wpAny_newList ?_ hvl)
  have hoL : (s1.heap.push (seqObj "list" (M.map fun q => Value.ref q.2).toArray 0)).get? s1.heap.objs.size = some (seqObj "list" (M.map fun q => Value.ref q.2).toArray 0) := Heap.get?_push_size _ rfl
  have inL : ∀ q ∈ M, q ∈ L := fun q hq => pM.mem_iff.mp hq
  have lt0 : ∀ b o, s.heap.get? b = some o → b ≠ s1.heap.objs.size := fun b o e => Nat.ne_of_lt (Nat.lt_of_lt_of_le (Heap.lt_size e) hz)
  have there : ∀ b o, s.heap.get? b = some o → (s1.heap.push (seqObj "list" (M.map fun q => Value.ref q.2).toArray 0)).get? b = some o := fun b o e => Heap.get?_push_of_some _ (k1 b o e)
  have key : ∀ q ∈ M, SIs (sortingHeap (s1.heap.push (seqObj "list" (M.map fun q => Value.ref q.2).toArray 0)) s1.heap.objs.size (M.map fun q => Value.ref q.2)) q.1 (.ref q.2) := fun q hq => (hS q (inL q hq)).keep fun b o e => sortingHeap_old (lt0 b o e) (there b o e)
  have ok' : AllOk A.in1.in1 (M.map (·.1)) := by
    have sub : ∀ k ∈ M.map (·.1), k ∈ L.map (·.1) := fun k hk => (pM.map (·.1)).mem_iff.mp hk
    exact ⟨fun k hk => ok.tup k (sub k hk), fun k hk k' hk' => ok.ok k (sub k hk) k' (sub k' hk'), fun k hk => ok.room k (sub k hk)⟩
  have S : SortsAt P w A.in1.in1 { s1 with heap := sortingHeap (s1.heap.push (seqObj "list" (M.map fun q => Value.ref q.2).toArray 0)) s1.heap.objs.size (M.map fun q => Value.ref q.2) } _ (M.map fun q => Value.ref q.2) := sorts_ok ok' fun v hv => by
    obtain ⟨q, hq, rfl⟩ := List.mem_map.mp hv
    exact ⟨q.1, List.mem_map.mpr ⟨q, hq, rfl⟩, key q hq⟩
  have sv := sortVals_each (κ := keyKd (sortingHeap (s1.heap.push (seqObj "list" (M.map fun q => Value.ref q.2).toArray 0)) s1.heap.objs.size (M.map fun q => Value.ref q.2)) (M.map (·.1))) (R := fun v q => v = Value.ref q.2) (rev := false) (k := fun q : NestedKey × Addr => tkK q.1)
    (each_refs (κ := keyKd s.heap []) M fun q _ => rfl) (each_refs (κ := keyKd s.heap []) M fun q hq => keyKd_some (List.mem_map.mpr ⟨q, hq, rfl⟩) (key q hq))
  have same : M.mergeSort (leK (·.1)) = L.mergeSort (leK (·.1)) := by
    have tl := sortLe_total (listOrd itemOrd) false fun q : NestedKey × Addr => tkK q.1
    refine sorted_eq (fun a b c => tl.trans a b c) (fun a b => by rw [Bool.or_eq_true]; exact tl.total a b) pM fun x hx y hy h1 h2 => ?_
    have e : x.1 = y.1 := leK_anti (ok'.ok _ (List.mem_map.mpr ⟨x, hx, rfl⟩) _ (List.mem_map.mpr ⟨y, hy, rfl⟩)) h1 h2
    have nd := R.unlike
    have inj : ∀ (l : List (NestedKey × Addr)), (l.map (·.1)).Nodup → ∀ x ∈ l, ∀ y ∈ l, x.1 = y.1 → x = y := by
      intro l
      induction l with
      | nil => intro _ x hx; cases hx
      | cons z l ih =>
        intro nd x hx y hy e
        obtain ⟨n1, n2⟩ := List.nodup_cons.mp nd
        rcases List.mem_cons.mp hx with ex | hx
        · rcases List.mem_cons.mp hy with ey | hy
          · rw [ex, ey]
          · exact absurd (List.mem_map.mpr ⟨y, hy, by rw [← e, ex]⟩) n1
        · rcases List.mem_cons.mp hy with ey | hy
          · exact absurd (List.mem_map.mpr ⟨x, hx, by rw [e, ey]⟩) n1
          · exact ih n2 x hx y hy e
    exact inj L nd x (inL x hx) y (inL y hy) e
  refine wpAny_bind (wpAny_holding (wpAny_call_entry slot_list_sort ⟨_, hoL, rfl⟩ entry_list_sort (list_sort_vals (s := { s1 with heap := s1.heap.push (seqObj "list" (M.map fun q => Value.ref q.2).toArray 0) }) hoL S hvl ?_) (args_list_sort _)))
  obtain ⟨c, hc⟩ := sortedHeap_at (vs := M.map fun q => Value.ref q.2) (out := (sortVals (keyKd (sortingHeap (s1.heap.push (seqObj "list" (M.map fun q => Value.ref q.2).toArray 0)) s1.heap.objs.size (M.map fun q => Value.ref q.2)) (M.map (·.1))) false (M.map fun q => Value.ref q.2) (M.map fun q => Value.ref q.2)).toArray) hoL
  refine ⟨_, rfl, ?_⟩
  refine wpAny_pure ⟨_, rfl, hQ _ s1.heap.objs.size _ c (fun b u e => ?_) g1 o1 hz hc ?_⟩
  · have lt := Heap.lt_size (k1 b u e)
    show (sortedHeap _ s1.heap.objs.size _ _).get? b = some u
    rw [sortedHeap_old (lt0 b u e) (by rw [size_push']; exact Nat.lt_succ_of_lt lt)]
    exact there b u e
  · rw [← same]
    exact each_back sv
end
end Mx


/-! Mx30: sorted(set(xs)), xs a list of nested tuples: the rule. -/
namespace Mx
open PySem PySem.Spec PyProof.Rows L2 PySem.W PySem.SeqAt
/-! ### data as keys -/
mutual
def nkD : D → Option NestedKey
  | .non => some .none
  | .int i => some (.num i)
  | .str x => some (.text x)
  | .tup ds => (nkDs ds).map .tup
  | .rot ds => (nkDs ds).map .tup
  | _ => none
def nkDs : List D → Option (List NestedKey)
  | [] => some []
  | d :: ds => match nkD d, nkDs ds with
    | some k, some ks => some (k :: ks)
    | _, _ => none
end
mutual
/-- a key as data, whoever holds its tuples -/
def rotK : NestedKey → D
  | .none => .non
  | .num i => .int i
  | .text x => .str x
  | .tup ks => .rot (rotKs ks)
def rotKs : List NestedKey → List D
  | [] => []
  | k :: ks => rotK k :: rotKs ks
end
theorem nkDs_cons {d : D} {ds : List D} {l : List NestedKey} (h : nkDs (d :: ds) = some l) : ∃ k ks, l = k :: ks ∧ nkD d = some k ∧ nkDs ds = some ks := by
  unfold nkDs at h
  cases e1 : nkD d with
  | none => rw [e1] at h; cases h
  | some k =>
    cases e2 : nkDs ds with
    | none => rw [e1, e2] at h; cases h
    | some ks =>
      rw [e1, e2] at h
      exact ⟨k, ks, (Option.some.inj h).symm, rfl, rfl⟩
section
variable {T : List (Addr × Str)} {K : PySem.W.Frag} {ρ : List Addr} {H : Hp}
mutual
theorem rot_of : ∀ (d : D) (v : V) (k : NestedKey), DR K ρ H d v → nkD d = some k → DR K ρ H (rotK k) v
  | .non, v, k, h, e => by cases e; exact h
  | .int i, v, k, h, e => by cases e; exact h
  | .str x, v, k, h, e => by cases e; exact h
  | .tup ds, v, k, h, e => by
    unfold nkD at e
    cases e2 : nkDs ds with
    | none => rw [e2] at e; cases e
    | some ks =>
      rw [e2] at e
      cases e
      rw [DR] at h
      obtain ⟨a, vs, h1, h2, h3⟩ := h
      unfold rotK
      rw [DR]
      exact ⟨a, vs, h1, .inl (.inl h2), rots_of ds vs ks h3 e2⟩
  | .rot ds, v, k, h, e => by
    unfold nkD at e
    cases e2 : nkDs ds with
    | none => rw [e2] at e; cases e
    | some ks =>
      rw [e2] at e
      cases e
      rw [DR] at h
      obtain ⟨a, vs, h1, h2, h3⟩ := h
      unfold rotK
      rw [DR]
      exact ⟨a, vs, h1, h2, rots_of ds vs ks h3 e2⟩
  | .bl _, v, k, h, e => by cases e
  | .ty _, v, k, h, e => by cases e
  | .rol _, v, k, h, e => by cases e
  | .ref _, v, k, h, e => by cases e
theorem rots_of : ∀ (ds : List D) (vs : List V) (ks : List NestedKey), DRs K ρ H ds vs → nkDs ds = some ks → DRs K ρ H (rotKs ks) vs
  | [], vs, ks, h, e => by cases e; exact h
  | d :: ds, vs, ks, h, e => by
    obtain ⟨k, ks, rfl, e1, e2⟩ := nkDs_cons e
    rw [DRs] at h
    obtain ⟨v, r, rfl, h1, h2⟩ := h
    unfold rotKs
    rw [DRs]
    exact ⟨v, r, rfl, rot_of d v k h1 e1, rots_of ds r ks h2 e2⟩
end
end
section
variable {X : Cx} {pins : List (Addr × Obj)} {σ : L2.St} {H : Hp} {s : Shared} {ρ : List Addr}
mutual
theorem nk_is (I : L2.Inv X pins σ H s) : ∀ (d : D) (v : V) (k : NestedKey) (u : Value), DR X.K ρ H d v → nkD d = some k → RelV v u → SIs s.heap k u
  | .non, v, k, u, h, e, r => by
    cases e
    rw [DR] at h
    subst h
    obtain rfl : u = Value.none := r
    exact .none
  | .int i, v, k, u, h, e, r => by
    cases e
    rw [DR] at h
    subst h
    obtain ⟨t, rfl⟩ := r
    exact .int i t
  | .str x, v, k, u, h, e, r => by
    cases e
    rw [DR] at h
    subst h
    obtain ⟨t, rfl⟩ := r
    exact .text x t
  | .tup ds, v, k, u, h, e, r => by
    unfold nkD at e
    cases e2 : nkDs ds with
    | none => rw [e2] at e; cases e
    | some ks =>
      rw [e2] at e
      cases e
      rw [DR] at h
      obtain ⟨a, vs, rfl, h2, h3⟩ := h
      obtain rfl : u = Value.ref a := r
      obtain ⟨its, rv, ⟨o, ho, hc, n, hd⟩, _⟩ := I.tuple (X := X) (a := a) (xs := vs) (.inl (.inl h2))
      exact .tup ho hc hd (by simpa using nks_are I ds vs ks its h3 e2 rv)
  | .rot ds, v, k, u, h, e, r => by
    unfold nkD at e
    cases e2 : nkDs ds with
    | none => rw [e2] at e; cases e
    | some ks =>
      rw [e2] at e
      cases e
      rw [DR] at h
      obtain ⟨a, vs, rfl, h2, h3⟩ := h
      obtain rfl : u = Value.ref a := r
      obtain ⟨its, rv, ⟨o, ho, hc, n, hd⟩, _⟩ := I.tuple h2
      exact .tup ho hc hd (by simpa using nks_are I ds vs ks its h3 e2 rv)
  | .bl _, v, k, u, h, e, r => by cases e
  | .ty _, v, k, u, h, e, r => by cases e
  | .rol _, v, k, u, h, e, r => by cases e
  | .ref _, v, k, u, h, e, r => by cases e
theorem nks_are (I : L2.Inv X pins σ H s) : ∀ (ds : List D) (vs : List V) (ks : List NestedKey) (us : List Value), DRs X.K ρ H ds vs → nkDs ds = some ks → Vals vs us → SAll s.heap ks us
  | [], vs, ks, us, h, e, r => by
    cases e
    rw [DRs] at h
    subst h
    cases r
    exact .nil
  | d :: ds, vs, ks, us, h, e, r => by
    obtain ⟨k, ks, rfl, e1, e2⟩ := nkDs_cons e
    rw [DRs] at h
    obtain ⟨v, vr, rfl, h1, h2⟩ := h
    cases r with
    | cons r1 r2 => exact .cons (nk_is I d v k _ h1 e1 r1) (nks_are I ds vr ks _ h2 e2 r2)
end
end
end Mx


namespace Mx
open PySem PySem.Spec PyProof.Rows L2 PySem.W PySem.SeqAt
/-- a set of keys, without the keys' own objects -/
structure KeysO (P : Program) (w : World) (h : Heap) (a : Addr) (L : List (NestedKey × Addr)) : Prop where
  ex : ∃ (es : Array (Int × Value)) (ep : Nat) (t : SetTable), (∃ o, h.get? a = some o ∧ o.ExactSet ∧ o.data = .set es ep t) ∧ es.toList = entsOf (nestKd P w) L ∧ L2.TabOk t (L.map fun q => (nestKd P w).hash q.1) ∧ (L.map (·.1)).Nodup ∧
    (w.params.followText "set-order" = true ∨ t.led = true) ∧ L.length * 5 < t.mask * 3 ∧ L.length < 64
def SetN (P : Program) (w : World) (a : Addr) (L : List (NestedKey × Addr)) : HO := .ext fun h => KeysO P w h a L
theorem setN_new {P : Program} {w : World} {H : Hp} {h : Heap} {a : Addr} {L : List (NestedKey × Addr)} (R : KeysO P w h a L) : ObjOk P w H h a (SetN P w a L) := by
  have ⟨es, ep, t, ⟨o, ho, r⟩, q⟩ := R.ex
  refine ⟨R, ⟨o, ho⟩, fun h1 h2 p k => ?_⟩
  have ⟨es', ep', t', ⟨o', ho', r'⟩, q'⟩ := KeysO.ex p
  exact ⟨es', ep', t', ⟨o', k o' ho', r'⟩, q'⟩
/-- keys that a set takes, and that can be sorted -/
structure GoodKs (ks : List NestedKey) : Prop where
  tup : ∀ k ∈ ks, ∃ l, k = .tup l
  deep : ∀ k ∈ ks, k.depth ≤ 8
  ok : ∀ k ∈ ks, ∀ k' ∈ ks, okK k k' = true
  few : ks.length < 64
/-- each entry of L is one of the keys, at its own address -/
structure FromKs (ks : List NestedKey) (vs : List V) (L : List (NestedKey × Addr)) : Prop where
  of : ∀ q ∈ L, ∃ i : Nat, ks[i]? = some q.1 ∧ vs[i]? = some (V.ref q.2)
  all : ∀ k ∈ ks, k ∈ L.map (·.1)
  nd : (L.map (·.1)).Nodup
theorem refs_list {vs : List V} {us : List Value} {ks : List NestedKey} (r : Vals vs us) (hk : ∀ (i : Nat) (k : NestedKey), ks[i]? = some k → ∃ a, vs[i]? = some (.ref a)) (hl : ks.length = vs.length) : ∃ as : List Addr, as.length = ks.length ∧ us = as.map Value.ref ∧ vs = as.map V.ref := by
  induction r generalizing ks with
  | nil => exact ⟨[], by cases ks <;> simp_all, rfl, rfl⟩
  | @cons v u vs us r1 r2 ih =>
    cases ks with
    | nil => simp at hl
    | cons k ks =>
      obtain ⟨a, e⟩ := hk 0 k rfl
      simp at e
      subst e
      obtain rfl : u = Value.ref a := r1
      obtain ⟨as, h1, h2, h3⟩ := ih (ks := ks) (fun i k h => by simpa using hk (i + 1) k (by simpa using h)) (by simpa using hl)
      exact ⟨a :: as, by simp [h1], by rw [h2]; rfl, by rw [h3]; rfl⟩
section
variable {X : Cx}
theorem nkDs_len {ds : List D} {ks : List NestedKey} (h : nkDs ds = some ks) : ks.length = ds.length := by
  induction ds generalizing ks with
  | nil => cases h; rfl
  | cons d ds ih =>
    obtain ⟨k, ks, rfl, _, e⟩ := nkDs_cons h
    simp [ih e]
theorem nkDs_at {ds : List D} {ks : List NestedKey} (h : nkDs ds = some ks) {i : Nat} {k : NestedKey} (hk : ks[i]? = some k) : ∃ d, ds[i]? = some d ∧ nkD d = some k := by
  induction ds generalizing ks i with
  | nil => cases h; simp at hk
  | cons d ds ih =>
    obtain ⟨k0, ks, rfl, e1, e2⟩ := nkDs_cons h
    cases i with
    | zero => simp at hk; subst hk; exact ⟨d, rfl, e1⟩
    | succ i => simpa using ih e2 (by simpa using hk)
/-- set(xs), xs a list of nested tuples -/
def rSetN (K : PySem.W.Frag) (P : Program) (w : World) : List V → Hp → VK → Prop := fun xs H Q => ∃ (ρ : List Addr) (l : Addr) (ds : List D) (vs : List V) (ks : List NestedKey), xs = [.ref l] ∧ SqL K H l vs ∧ DRs K ρ H ds vs ∧ nkDs ds = some ks ∧ GoodKs ks ∧
  ∀ a L, H a = none → FromKs ks vs L → L.length < 64 → Q (.ref a) (upd H a (SetN P w a L))
theorem tup_ref {K : PySem.W.Frag} {ρ : List Addr} {H : Hp} {d : D} {v : V} {l : List NestedKey} (h : DR K ρ H d v) (e : nkD d = some (.tup l)) : ∃ a, v = .ref a := by
  cases d with
  | tup ds => rw [DR] at h; obtain ⟨a, vs, h1, _⟩ := h; exact ⟨a, h1⟩
  | rot ds => rw [DR] at h; obtain ⟨a, vs, h1, _⟩ := h; exact ⟨a, h1⟩
  | _ => cases e
theorem cr_setN (hc : X.calm = true) (hu : X.A.units + 64 < cLine) : CallR X (.type "set") (rSetN X.K X.prog X.w) := by
  intro pins s σ H xs us Q I r h
  obtain ⟨ρ, l, ds, vs, ks, rfl, hl, hd, hk, good, q⟩ := h
  rw [Vals.ref1 r]
  obtain ⟨its, rv, pl, hz⟩ := I.list hl
  have hn : H s.heap.objs.size = none := I.hok.fresh (Nat.le_refl _)
  have lens : ks.length = vs.length := by rw [nkDs_len hk, hd.length]
  obtain ⟨as, h1, h2, h3⟩ := refs_list (ks := ks) rv (fun i k hi => by
    obtain ⟨d, e1, e2⟩ := nkDs_at hk hi
    obtain ⟨v, e3, e4⟩ := hd.get e1
    obtain ⟨l, rfl⟩ := good.tup k (List.mem_of_getElem? hi)
    obtain ⟨a, rfl⟩ := tup_ref e4 e2
    exact ⟨a, e3⟩) lens
  have isK : ∀ q ∈ ks.zip as, (nestKd X.prog X.w).is s.heap q.1 q.2 := fun q hq => by
    obtain ⟨i, hi, e⟩ := List.getElem_of_mem hq
    have e0 : (ks.zip as)[i]? = some q := by rw [List.getElem?_eq_getElem hi, e]
    rw [List.getElem?_zip_eq_some] at e0
    obtain ⟨d, e1, e2⟩ := nkDs_at hk e0.1
    obtain ⟨v, e3, e4⟩ := hd.get e1
    have ev : v = .ref q.2 := by
      rw [h3, List.getElem?_map, e0.2] at e3
      exact (Option.some.inj e3).symm
    subst ev
    exact ⟨(nk_is I d _ q.1 _ e4 e2 rfl).nest, good.deep _ (List.mem_of_getElem? e0.1)⟩
  have hzip : (ks.zip as).length = ks.length := by rw [List.length_zip, h1, Nat.min_self]
  refine call_set_keys (P := X.prog) (w := X.w) (kd := nestKd X.prog X.w) (ks.zip as) (I.ok.hd hc) pl.isList ?_ isK (by rw [hzip]; exact good.few) (fun B hB => by show B.units + 8 < cLine; omega) fun h' tk L es ep t R m k => ?_
  · have : (ks.zip as).map (fun q => Value.ref q.2) = as.map Value.ref := by
      rw [show (fun q : NestedKey × Addr => Value.ref q.2) = Value.ref ∘ Prod.snd from rfl, ← List.map_map, List.map_snd_zip (by omega)]
    rw [this]
    first | exact h2 | simpa using h2
  · refine ⟨.ref s.heap.objs.size, upd H s.heap.objs.size (SetN X.prog X.w s.heap.objs.size L), I.laid (t' := tk) k (Nat.le_refl _) (setN_new ⟨es, ep, t, R.obj, R.ents, R.table, R.unlike, R.led, R.loose, R.few⟩), rfl, q _ L hn ⟨fun q hq => ?_, fun k0 hk0 => ?_, R.unlike⟩ R.few⟩
    · obtain ⟨i, hi, e⟩ := List.getElem_of_mem (m.of q hq)
      have e0 : (ks.zip as)[i]? = some q := by rw [List.getElem?_eq_getElem hi, e]
      rw [List.getElem?_zip_eq_some] at e0
      exact ⟨i, e0.1, by rw [h3, List.getElem?_map, e0.2]; rfl⟩
    · obtain ⟨j, hj, e⟩ := List.getElem_of_mem hk0
      have hj2 : j < (ks.zip as).length := by rw [hzip]; exact hj
      have e0 : (ks.zip as)[j]? = some (ks[j], as[j]'(by rw [h1]; exact hj)) := by
        rw [List.getElem?_zip_eq_some]
        exact ⟨List.getElem?_eq_getElem hj, List.getElem?_eq_getElem _⟩
      have := m.all j _ hj2 e0
      rw [← e]
      exact this
/-- sorted(set) -/
def rSortedN (K : PySem.W.Frag) (P : Program) (w : World) : List V → Hp → VK → Prop := fun xs H Q => ∃ (ρ : List Addr) (a : Addr) (L : List (NestedKey × Addr)), xs = [.ref a] ∧ H a = some (SetN P w a L) ∧ (∀ q ∈ L, ∃ d, DR K ρ H d (.ref q.2) ∧ nkD d = some q.1) ∧ GoodKs (L.map (·.1)) ∧
  ∀ p, H p = none → Q (.ref p) (upd H p (.lst ((L.mergeSort (leK (·.1))).map fun q => V.ref q.2)))
theorem vals_refs : ∀ (L : List (NestedKey × Addr)), Vals (L.map fun q => V.ref q.2) (L.map fun q => Value.ref q.2)
  | [] => .nil
  | q :: L => .cons rfl (vals_refs L)
theorem cr_sortedN (hc : X.calm = true) (hu : X.A.units + 64 < cLine) : CallR X (.builtin "sorted") (rSortedN X.K X.prog X.w) := by
  intro pins s σ H xs us Q I r h
  obtain ⟨ρ, a, L, rfl, ha, hk, good, q⟩ := h
  obtain ⟨es, ep, t, k1, k2, k3, k4, k5, k6, k7⟩ := (show KeysO X.prog X.w s.heap a L from (I.hok a _ ha).1).ex
  have hS : ∀ q ∈ L, SIs s.heap q.1 (.ref q.2) := fun q hq => by
    obtain ⟨d, e1, e2⟩ := hk q hq
    exact nk_is I d _ q.1 _ e1 e2 rfl
  have R : Keys (nestKd X.prog X.w) s.heap a L es ep t := ⟨k1, k2, k3, k4, fun q hq => ⟨(hS q hq).nest, good.deep _ (List.mem_map.mpr ⟨q, hq, rfl⟩)⟩, k5, k6, k7⟩
  rw [Vals.ref1 r]
  refine sorted_keys R hS (I.ok.hd hc) ⟨good.tup, good.ok, fun k hk => ?_⟩ fun s' p out c k g o hp hg hout => ?_
  · have := good.deep k hk
    show X.A.units + 2 + k.depth < cLine
    omega
  · have hlen : ((L.mergeSort (leK (·.1))).map fun q => V.ref q.2).length ≤ sizeLine := by rw [List.length_map, (List.mergeSort_perm L _).length_eq, sizeLine_eq]; omega
    have hn : H p = none := I.hok.fresh hp
    have hv : Vals ((L.mergeSort (leK (·.1))).map fun q => V.ref q.2) out.toList := by rw [hout]; exact vals_refs _
    have J : L2.Inv X pins σ (upd H p (.lst ((L.mergeSort (leK (·.1))).map fun q => V.ref q.2))) { s with heap := s'.heap, gens := s'.gens, drawn := s'.drawn, toks := s'.toks } :=
      I.call (ch := []) (Un.laid k hp hn) (I.hok.laid k hp ⟨hlen, out.toList, c, hv, hg⟩) (by rw [g]; exact I.bare) (fun _ z => nomatch z)
    have e : s' = { s with heap := s'.heap, gens := s'.gens, drawn := s'.drawn, toks := s'.toks } := by
      cases s'
      cases s
      cases o
      rfl
    rw [e]
    exact ⟨.ref p, _, J, rfl, q p hn⟩
end
end Mx


namespace Mx
open PySem PySem.Spec PyProof.Rows L2 PySem.W PySem.SeqAt
def dedupN : List NestedKey → List NestedKey
  | [] => []
  | k :: ks => if k ∈ ks then dedupN ks else k :: dedupN ks
theorem mem_dedupN {j : NestedKey} : ∀ {l : List NestedKey}, j ∈ dedupN l ↔ j ∈ l
  | [] => Iff.rfl
  | k :: r => by
    unfold dedupN
    split
    · rename_i h
      rw [mem_dedupN, List.mem_cons]
      exact ⟨.inr, fun z => z.elim (fun e => e ▸ h) id⟩
    · rw [List.mem_cons, List.mem_cons, mem_dedupN]
theorem dedupN_nodup : ∀ l : List NestedKey, (dedupN l).Nodup
  | [] => List.nodup_nil
  | k :: r => by
    unfold dedupN
    split
    · exact dedupN_nodup r
    · rename_i h
      exact List.nodup_cons.mpr ⟨fun z => h (mem_dedupN.mp z), dedupN_nodup r⟩
/-- the unlike ones, in order, as data -/
def sortN (ks : List NestedKey) : List D := ((dedupN ks).mergeSort (leK id)).map rotK
def isTupK : NestedKey → Bool
  | .tup _ => true
  | _ => false
def goodB (ks : List NestedKey) : Bool := decide (ks.length < 64) && ks.all (fun k => isTupK k && decide (k.depth ≤ 8) && ks.all fun k' => okK k k')
theorem goodB_of {ks : List NestedKey} (h : goodB ks = true) : GoodKs ks := by
  unfold goodB at h
  rw [Bool.and_eq_true, decide_eq_true_eq, List.all_eq_true] at h
  obtain ⟨h1, h2⟩ := h
  refine ⟨fun k hk => ?_, fun k hk => ?_, fun k hk k' hk' => ?_, h1⟩
  all_goals
    have := h2 k hk
    rw [Bool.and_eq_true, Bool.and_eq_true, decide_eq_true_eq, List.all_eq_true] at this
  · cases k with
    | tup l => exact ⟨l, rfl⟩
    | _ => exact absurd this.1.1 (by simp [isTupK])
  · exact this.1.2
  · exact this.2 k' hk'
def nsetD (me : Es → M D) : Es → M D := fun es => do
  let x ← me es
  match x with
    | .ref n => do
      let ds ← lstAt n
      match nkDs ds with
        | some ks => do
          guardM (goodB ks)
          new (.lst (sortN ks))
        | none => fail
    | _ => fail
section
variable {T : List (Addr × Str)} {X : Cx}
theorem drs_sorted {K : PySem.W.Frag} {ρ : List Addr} {H : Hp} : ∀ (M : List (NestedKey × Addr)), (∀ q ∈ M, DR K ρ H (rotK q.1) (.ref q.2)) → DRs K ρ H ((M.map (·.1)).map rotK) (M.map fun q => V.ref q.2)
  | [], _ => DRs.nil
  | q :: M, h => DRs.cons (h q (List.mem_cons_self ..)) (drs_sorted M fun r hr => h r (List.mem_cons_of_mem _ hr))
theorem msetN {a : Expr} {me : Es → M D} {p pos p2 pos2 : Pos} (hc : X.calm = true) (hu : X.A.units + 64 < cLine) (ha : PE X a (eM T X.K me)) (hg : Gl X "sorted" := by rfl) (hm : X.mg "sorted" = none) (hg2 : Gl X "set" := by rfl) (hm2 : X.mg "set" = none)
    (na : starEach [a] X.env = (false, eval a X.env) :: starEach [] X.env := by rfl) (nb : starEach [.Call (.Name "set" p2) [a] [] pos2] X.env = (false, eval (.Call (.Name "set" p2) [a] [] pos2) X.env) :: starEach [] X.env := by rfl) :
    PE X (.Call (.Name "sorted" p) [.Call (.Name "set" p2) [a] [] pos2] [] pos) (eM T X.K (nsetD me)) :=
  PE.as (pe_callB (cr_sortedN hc hu) hg hm PyProof.Rows.boot_sorted (pa_cons (pe_callTy (cr_setN hc hu) hg2 hm2 PyProof.Rows.boot_set (pa_cons ha pa_nil na) (he := na)) pa_nil nb) (he := nb)) fun σ H Q h => by
    obtain ⟨ρ, st, es, d, st', R, Er, hm, k⟩ := h
    obtain ⟨x, s1, h1, h2⟩ := bind_some hm
    refine ⟨ρ, st, es, x, s1, R, Er, h1, fun ρ1 v1 H1 e1 R1 d1 => ?_⟩
    cases x with
    | ref n =>
      obtain ⟨ds, s2, h3, h4⟩ := bind_some h2
      obtain ⟨hn, rfl⟩ := lstAt_some h3
      obtain ⟨l, vs, rfl, _, q1, q2⟩ := R1.lst d1 hn
      cases hi : nkDs ds with
      | none => simp only [hi] at h4; cases h4
      | some ks =>
        simp only [hi] at h4
        obtain ⟨hz, h5⟩ := guarded h4
        cases h5
        have good := goodB_of hz
        refine ⟨ρ1, l, ds, vs, ks, rfl, SqL.of q1, q2, hi, good, fun b L hb fk hl => ?_⟩
        have R2 := R1.any (u := SetN X.prog X.w b L) hb
        have E2 : Ext ρ1 H1 ρ1 _ := Ext.fresh (u := SetN X.prog X.w b L) hb
        have each : ∀ q ∈ L, ∃ d, DR X.K ρ1 (upd H1 b (SetN X.prog X.w b L)) d (.ref q.2) ∧ nkD d = some q.1 := fun q hq => by
          obtain ⟨i, g1, g2⟩ := fk.of q hq
          obtain ⟨d, g3, g4⟩ := nkDs_at hi g1
          obtain ⟨v, g5, g6⟩ := q2.get g3
          rw [g2] at g5
          cases g5
          exact ⟨d, DR.ext R1 E2 _ _ g6, g4⟩
        have sub : ∀ k ∈ L.map (·.1), k ∈ ks := fun k hk => by
          obtain ⟨q, hq, rfl⟩ := List.mem_map.mp hk
          obtain ⟨i, g1, _⟩ := fk.of q hq
          exact List.mem_of_getElem? g1
        refine ⟨ρ1, b, L, rfl, upd_same, each, ⟨fun k hk => good.tup k (sub k hk), fun k hk => good.deep k (sub k hk), fun k hk k' hk' => good.ok k (sub k hk) k' (sub k' hk'), by rw [List.length_map]; exact hl⟩, fun p hp => ?_⟩
        have pm : (L.map (·.1)).Perm (dedupN ks) := (List.perm_ext_iff_of_nodup fk.nd (dedupN_nodup ks)).mpr fun k => ⟨fun z => mem_dedupN.mpr (sub k z), fun z => fk.all k (mem_dedupN.mp z)⟩
        have e : ((L.mergeSort (leK (·.1))).map (·.1)) = (dedupN ks).mergeSort (leK id) := by
          refine (List.map_mergeSort (r := leK fun q : NestedKey × Addr => q.1) (s := leK id) (f := fun q : NestedKey × Addr => q.1) (l := L) (fun a _ b _ => rfl)).trans ?_
          have tl := sortLe_total (listOrd itemOrd) false fun q : NestedKey => tkK q
          exact sorted_eq (fun a b c => tl.trans a b c) (fun a b => by rw [Bool.or_eq_true]; exact tl.total a b) pm fun x hx y hy h1 h2 => leK_anti (good.ok x (sub x hx) y (sub y hy)) h1 h2
        have dd : DRs X.K ρ1 (upd H1 b (SetN X.prog X.w b L)) (sortN ks) ((L.mergeSort (leK (·.1))).map fun q => V.ref q.2) := by
          unfold sortN
          rw [← e]
          refine drs_sorted _ fun q hq => ?_
          obtain ⟨d, g1, g2⟩ := each q ((List.mergeSort_perm L _).mem_iff.mp hq)
          exact rot_of d _ q.1 g1 g2
        exact Post.lst R2 (fun ρ3 v3 H3 e3 R3 d3 => k ρ3 v3 H3 ((e1.trans E2).trans e3) R3 d3) dd p hp
    | _ => cases h2
end
end Mx


/-! Mx33: a dict is walked: it is locked while the walk lasts. -/
namespace Mx
open PySem PySem.Spec L2
variable {T : List (Addr × Str)}

/-- the dict at place n is locked while m runs -/
def lockN {α : Type} (n : Nat) (m : M α) : M α := fun st => match st[n]? with
  | some (.dic kvs) => match m (st.set n (.dif kvs)) with
    | some (r, s1) => match s1[n]? with
      | some (.dif kvs') => some (r, s1.set n (.dic kvs'))
      | _ => none
    | none => none
  | _ => none
/-- .. the dict that a name holds -/
def lockS {α : Type} (i : Nat) (m : Es → M α) : Es → M α := fun es => match es[i]? with
  | some (some (.ref n)) => lockN n (m es)
  | _ => fail
theorem lockN_some {α : Type} {n : Nat} {m : M α} {st st' : S} {r : α} (h : lockN n m st = some (r, st')) :
    ∃ kvs s1 kvs', st[n]? = some (.dic kvs) ∧ m (st.set n (.dif kvs)) = some (r, s1) ∧ s1[n]? = some (.dif kvs') ∧ st' = s1.set n (.dic kvs') := by
  unfold lockN at h
  split at h
  · rename_i kvs hn
    split at h
    · rename_i r1 s1 hm
      split at h
      · rename_i kvs' hn'
        cases h
        exact ⟨kvs, s1, kvs', hn, hm, hn', rfl⟩
      · cases h
    · cases h
  · cases h
theorem lockS_some {α : Type} {i : Nat} {m : Es → M α} {es : Es} {st st' : S} {r : α} (h : lockS i m es st = some (r, st')) :
    ∃ n, lockN n (m es) st = some (r, st') := by
  unfold lockS at h
  cases q : es[i]? with
  | none => rw [q] at h; cases h
  | some o =>
    rw [q] at h
    cases o with
    | none => cases h
    | some d =>
      cases d with
      | ref n => exact ⟨n, h⟩
      | _ => cases h
section
variable {K : PySem.W.Frag} {ρ ρ' : List Addr} {H H' : Hp} {st st1 : S} {n : Nat} {a : Addr} {od : Obj} {ws : List (Key × V)} {kvs : List (Key × D)}
theorem Rel.lock (R : Rel T K ρ H st) (hn : st[n]? = some (.dic kvs)) : ∃ a ws, ρ[n]? = some a ∧ H a = some (.dK ws) ∧ ∀ od, Ext ρ H ρ (upd H a (.frz od (.dK ws))) ∧ Rel T K ρ (upd H a (.frz od (.dK ws))) (st.set n (.dif kvs)) := by
  have il : n < ρ.length := by rw [R.len]; exact (List.getElem?_eq_some_iff.mp hn).1
  obtain ⟨ws, h1, h2⟩ := R.obj n _ _ (List.getElem?_eq_getElem il) hn
  have nf : ∀ o v, H ρ[n] ≠ some (.frz o v) := fun o v z => by rw [h1] at z; cases z
  refine ⟨ρ[n], ws, List.getElem?_eq_getElem il, h1, fun od => ⟨Ext.put R (List.getElem?_eq_getElem il) nf, ?_⟩⟩
  exact R.put (List.getElem?_eq_getElem il) nf fun H' e x => ⟨od, ws, e, KR.ext R x _ _ h2⟩
theorem Rel.unlock (R : Rel T K ρ H st) (hn : ρ[n]? = some a) (ha : H a = some (.frz od (.dK ws))) (hs : st[n]? = some (.dif kvs)) : Rel T K ρ (upd H a (.dK ws)) (st.set n (.dic kvs)) := by
  have il : n < ρ.length := (List.getElem?_eq_some_iff.mp hn).1
  have mv : Mv ρ H ρ (upd H a (.dK ws)) := Mv.free ha
  refine ⟨Tabs.put R.tab ha (.inr (.inr (.inr ⟨_, _, rfl⟩))), by rw [List.length_set]; exact R.len, R.nd, fun j b x hj hx => ?_⟩
  by_cases e : n = j
  · subst e
    rw [hn] at hj; cases hj
    rw [List.getElem?_set_self (by rw [← R.len]; exact il)] at hx
    cases hx
    obtain ⟨o, vs, h1, h2⟩ := R.obj n a _ hn hs
    rw [ha] at h1; cases h1
    exact ⟨ws, upd_same, KR.mv mv _ _ h2⟩
  · rw [List.getElem?_set_ne e] at hx
    refine (R.obj j b x hj hx).mv mv (upd_ne fun z => ?_)
    subst z
    have jl : j < ρ.length := (List.getElem?_eq_some_iff.mp hj).1
    have e1 : ρ[n] = b := by rw [List.getElem?_eq_getElem il] at hn; exact Option.some.inj hn
    have e2 : ρ[j] = b := by rw [List.getElem?_eq_getElem jl] at hj; exact Option.some.inj hj
    exact e ((List.getElem_inj R.nd).mp (e1.trans e2.symm))
theorem Ext.unlock (hn : ρ[n]? = some a) (ha : H a = some (.dK ws)) (e : Ext ρ (upd H a (.frz od (.dK ws))) ρ' H') : Ext ρ H ρ' (upd H' a (.dK ws)) := by
  have ia : a ∈ ρ := List.mem_of_getElem? hn
  refine ⟨e.pre, fun b hb => ?_, fun b o q hb ht => ?_, fun b ps q => ?_, fun b o u q => ?_⟩
  · by_cases z : b = a
    · exact .inl (z ▸ ia)
    · exact (e.new b hb).imp id fun y => by rw [upd_ne z] at y; exact y
  · have z : b ≠ a := fun z => hb (z ▸ ia)
    rw [upd_ne z]
    exact e.keep b o (by rw [upd_ne z]; exact q) hb ht
  · have z : b ≠ a := fun z => by rw [z, ha] at q; cases q
    rw [upd_ne z]
    exact e.tbl b ps (by rw [upd_ne z]; exact q)
  · have z : b ≠ a := fun z => by rw [z, ha] at q; cases q
    rw [upd_ne z]
    exact e.frz b o u (by rw [upd_ne z]; exact q)
end
section
variable {X : Cx}
/-- what a lock's end gives -/
theorem lock_end {K : PySem.W.Frag} {ρ ρ' : List Addr} {H H' : Hp} {s1 : S} {n : Nat} {a : Addr} {od : Obj} {ws : List (Key × V)} {kvs : List (Key × D)} (hn : ρ[n]? = some a) (ha : H a = some (.dK ws)) (e : Ext ρ (upd H a (.frz od (.dK ws))) ρ' H') (R : Rel T K ρ' H' s1) (hs : s1[n]? = some (.dif kvs)) :
    H' a = some (.frz od (.dK ws)) ∧ Ext ρ H ρ' (upd H' a (.dK ws)) ∧ Rel T K ρ' (upd H' a (.dK ws)) (s1.set n (.dic kvs)) ∧ Mv ρ' H' ρ' (upd H' a (.dK ws)) := by
  have h := e.frz a od _ upd_same
  exact ⟨h, e.unlock hn ha, R.unlock (e.get hn) h hs, Mv.free h⟩
theorem slock {s0 : Stmt} {i : Nat} {m : Es → M (Es × Fl)} (h : PS X s0 (sM T X.K m)) : PS X s0 (sM T X.K (lockS i m)) :=
  PS.as (ps_lock h) fun E σ H q => by
    obtain ⟨ρ, st, es, es', f, st', R, Er, hm, k⟩ := q
    obtain ⟨n, hm2⟩ := lockS_some hm
    obtain ⟨kvs, s1, kvs', hn, hm3, hn', rfl⟩ := lockN_some hm2
    obtain ⟨a, ws, h1, h2, h3⟩ := R.lock hn
    refine ⟨a, .dK ws, h2, True.intro, fun od => ?_⟩
    obtain ⟨e0, R0⟩ := h3 od
    refine ⟨ρ, _, es, es', f, s1, R0, Er.ext R e0, hm3, ?_⟩
    cases f with
    | nx => exact fun ρ' σ' H' e R1 Er1 => let ⟨g1, g2, g3, g4⟩ := lock_end h1 h2 e R1 hn'; ⟨g1, k ρ' σ' _ g2 g3 (Er1.mv g4)⟩
    | bk => exact fun ρ' σ' H' e R1 Er1 => let ⟨g1, g2, g3, g4⟩ := lock_end h1 h2 e R1 hn'; ⟨g1, k ρ' σ' _ g2 g3 (Er1.mv g4)⟩
    | ct => exact fun ρ' σ' H' e R1 Er1 => let ⟨g1, g2, g3, g4⟩ := lock_end h1 h2 e R1 hn'; ⟨g1, k ρ' σ' _ g2 g3 (Er1.mv g4)⟩
    | rt d => exact fun ρ' v H' e R1 d1 => let ⟨g1, g2, g3, g4⟩ := lock_end h1 h2 e R1 hn'; ⟨g1, k ρ' v _ g2 g3 (DR.mv g4 _ _ d1)⟩
theorem elock {e : Expr} {i : Nat} {m : Es → M D} (h : PE X e (eM T X.K m)) : PE X e (eM T X.K (lockS i m)) :=
  PE.as (pe_lock h) fun σ H Q q => by
    obtain ⟨ρ, st, es, d, st', R, Er, hm, k⟩ := q
    obtain ⟨n, hm2⟩ := lockS_some hm
    obtain ⟨kvs, s1, kvs', hn, hm3, hn', rfl⟩ := lockN_some hm2
    obtain ⟨a, ws, h1, h2, h3⟩ := R.lock hn
    refine ⟨a, .dK ws, h2, True.intro, fun od => ?_⟩
    obtain ⟨e0, R0⟩ := h3 od
    refine ⟨ρ, _, es, d, s1, R0, Er.ext R e0, hm3, fun ρ' v H' e R1 d1 => ?_⟩
    obtain ⟨g1, g2, g3, g4⟩ := lock_end h1 h2 e R1 hn'
    exact ⟨g1, k ρ' v _ g2 g3 (DR.mv g4 _ _ d1)⟩
end

/-! ### the walks over a locked dict -/
def kD : Key → D
  | .inl i => .int i
  | .inr x => .str x
def difAt (n : Nat) : M (List (Key × D)) := fun st => match st[n]? with
  | some (.dif kvs) => some (kvs, st)
  | _ => none
theorem difAt_some {n : Nat} {st st' : S} {kvs : List (Key × D)} (h : difAt n st = some (kvs, st')) : st[n]? = some (.dif kvs) ∧ st' = st := by
  unfold difAt at h
  split at h
  · cases h; rename_i q; exact ⟨q, rfl⟩
  · cases h
def difOf : D → M (List (Key × D))
  | .ref n => difAt n
  | _ => fail
theorem difOf_some {d : D} {st st' : S} {kvs : List (Key × D)} (h : difOf d st = some (kvs, st')) : ∃ n, d = .ref n ∧ st[n]? = some (.dif kvs) ∧ st' = st := by
  cases d with
  | ref n => exact ⟨n, rfl, difAt_some h⟩
  | _ => cases h
def keysS (me : Es → M D) : Es → M Src := fun es => do
  let x ← me es
  let kvs ← difOf x
  pure (.seq (kvs.map fun q => kD q.1))
def valsS (me : Es → M D) : Es → M Src := fun es => do
  let x ← me es
  let kvs ← difOf x
  pure (.seq (kvs.map fun q => q.2))
def itemsS (me : Es → M D) : Es → M Src := fun es => do
  let x ← me es
  let kvs ← difOf x
  pure (.seq (kvs.map fun q => .tup [kD q.1, q.2]))
section
variable {K : PySem.W.Frag} {ρ : List Addr} {H : Hp} {st : S}
theorem dr_kD {k : Key} : DR K ρ H (kD k) (kV k) := by
  cases k with
  | inl i => show DR K ρ H (.int i) (.int i); rw [DR]
  | inr x => show DR K ρ H (.str x) (.str x); rw [DR]
theorem KR.at : ∀ {kvs : List (Key × D)} {ws : List (Key × V)}, KR K ρ H kvs ws → ∀ (i : Nat), (kvs[i]? = none ∧ ws.length ≤ i) ∨ ∃ k d v, kvs[i]? = some (k, d) ∧ ws[i]? = some (k, v) ∧ DR K ρ H d v
  | [], ws, h, i => by
    have : ws = [] := h
    subst this
    exact .inl ⟨rfl, Nat.zero_le _⟩
  | (k, d) :: kvs, ws, ⟨q, r, h1, h2, h3, h4⟩, i => by
    subst h1
    cases i with
    | zero => exact .inr ⟨k, d, q.2, rfl, by obtain ⟨q1, q2⟩ := q; cases h2; rfl, h3⟩
    | succ i => exact (KR.at h4 i).imp (fun ⟨a, b⟩ => ⟨a, Nat.succ_le_succ b⟩) id
theorem lt_of_at {α : Type} {xs : List α} {i : Nat} {x : α} (h : xs[i]? = some x) : i < xs.length := (List.getElem?_eq_some_iff.mp h).1
theorem src_keys {a : Addr} {od : Obj} {ws : List (Key × V)} {kvs : List (Key × D)} (R : Rel T K ρ H st) (ha : H a = some (.frz od (.dK ws))) (hk : KR K ρ H kvs ws) : SrcOk T K ρ H (.seq (kvs.map fun q => kD q.1)) (Itk a od ws) := by
  intro ρ1 H1 st1 i e R1
  have q1 := e.frz _ _ _ ha
  show LapOk T K ρ1 H1 st1 (Itk a od ws) i (lapOf (kvs.map fun q => kD q.1)[i]?)
  rcases (KR.ext R e _ _ hk).at i with ⟨h1, h2⟩ | ⟨k, d, v, h1, h2, h3⟩
  · rw [List.getElem?_map, h1]; exact ⟨q1, h2⟩
  · rw [List.getElem?_map, h1]
    refine ⟨⟨q1, lt_of_at h2⟩, fun x H2 y => ?_⟩
    obtain ⟨rfl, k', v', y1, rfl⟩ := y
    rw [h2] at y1; cases y1
    exact ⟨Ext.refl _ _, R1, dr_kD⟩
theorem src_vals {a : Addr} {od : Obj} {ws : List (Key × V)} {kvs : List (Key × D)} (R : Rel T K ρ H st) (ha : H a = some (.frz od (.dK ws))) (hk : KR K ρ H kvs ws) : SrcOk T K ρ H (.seq (kvs.map fun q => q.2)) (Itd a od ws) := by
  intro ρ1 H1 st1 i e R1
  have q1 := e.frz _ _ _ ha
  show LapOk T K ρ1 H1 st1 (Itd a od ws) i (lapOf (kvs.map fun q => q.2)[i]?)
  rcases (KR.ext R e _ _ hk).at i with ⟨h1, h2⟩ | ⟨k, d, v, h1, h2, h3⟩
  · rw [List.getElem?_map, h1]; exact ⟨q1, h2⟩
  · rw [List.getElem?_map, h1]
    refine ⟨⟨q1, lt_of_at h2⟩, fun x H2 y => ?_⟩
    obtain ⟨rfl, k', y1⟩ := y
    rw [h2] at y1; cases y1
    exact ⟨Ext.refl _ _, R1, h3⟩
theorem src_items {a : Addr} {od : Obj} {ws : List (Key × V)} {kvs : List (Key × D)} (R : Rel T K ρ H st) (ha : H a = some (.frz od (.dK ws))) (hk : KR K ρ H kvs ws) : SrcOk T K ρ H (.seq (kvs.map fun q => .tup [kD q.1, q.2])) (Iti a od ws) := by
  intro ρ1 H1 st1 i e R1
  have q1 := e.frz _ _ _ ha
  show LapOk T K ρ1 H1 st1 (Iti a od ws) i (lapOf (kvs.map fun q => D.tup [kD q.1, q.2])[i]?)
  rcases (KR.ext R e _ _ hk).at i with ⟨h1, h2⟩ | ⟨k, d, v, h1, h2, h3⟩
  · rw [List.getElem?_map, h1]; exact ⟨q1, h2⟩
  · rw [List.getElem?_map, h1]
    refine ⟨⟨q1, lt_of_at h2⟩, fun x H2 y => ?_⟩
    obtain ⟨T', k', v', y1, rfl, hT, rfl⟩ := y
    rw [h2] at y1; cases y1
    exact ⟨Ext.tup hT, R1.tup hT, by rw [DR]; exact ⟨T', _, rfl, upd_same, DRs.ext R1 (Ext.tup hT) _ _ (DRs.cons dr_kD (DRs.cons h3 DRs.nil))⟩⟩
/-- a locked dict of the store -/
theorem Rel.dif (R : Rel T K ρ H st) {n : Nat} {v : V} {kvs : List (Key × D)} (hv : DR K ρ H (.ref n) v) (hs : st[n]? = some (.dif kvs)) : ∃ a od ws, v = .ref a ∧ H a = some (.frz od (.dK ws)) ∧ KR K ρ H kvs ws := by
  rw [DR] at hv
  obtain ⟨a, h1, h2⟩ := hv
  obtain ⟨od, ws, h3, h4⟩ := R.obj n a _ h2 hs
  exact ⟨a, od, ws, h1, h3, h4⟩
end
section
variable {X : Cx} {tg e : Expr} {me : Es → M D} {apos cpos : Pos}
theorem ikeys (he : PE X e (eM T X.K me)) : PI X tg e (iM T X.K (keysS me)) := PI.as (pi_keys he) fun σ H R0 h => by
  obtain ⟨ρ, st, es, s, st', R, Er, hm, k⟩ := h
  obtain ⟨x, s1, h1, h2⟩ := bind_some hm
  obtain ⟨kvs, s2, h3, h4⟩ := bind_some h2
  obtain ⟨rfl, rfl⟩ := pure_some h4
  obtain ⟨n, rfl, hn, rfl⟩ := difOf_some h3
  refine ⟨ρ, st, es, _, _, R, Er, h1, fun ρ1 v1 H1 e1 R1 d1 => ?_⟩
  obtain ⟨a, od, ws, rfl, ha, hk⟩ := R1.dif d1 hn
  exact ⟨a, od, rfl, .inl ⟨ws, ha, k ρ1 H1 _ e1 R1 (src_keys R1 ha hk)⟩⟩
theorem ivals (he : PE X e (eM T X.K me)) (hbase : attributeBase e "values" X.env (eval e X.env) = eval e X.env := by rfl) (hline : (apos.endLine == cpos.line) = true := by rfl) : PI X tg (.Call (.Attribute e "values" apos) [] [] cpos) (iM T X.K (valsS me)) := PI.as (pi_values he hbase hline) fun σ H R0 h => by
  obtain ⟨ρ, st, es, s, st', R, Er, hm, k⟩ := h
  obtain ⟨x, s1, h1, h2⟩ := bind_some hm
  obtain ⟨kvs, s2, h3, h4⟩ := bind_some h2
  obtain ⟨rfl, rfl⟩ := pure_some h4
  obtain ⟨n, rfl, hn, rfl⟩ := difOf_some h3
  refine ⟨ρ, st, es, _, _, R, Er, h1, fun ρ1 v1 H1 e1 R1 d1 => ?_⟩
  obtain ⟨a, od, ws, rfl, ha, hk⟩ := R1.dif d1 hn
  exact ⟨a, od, ws, rfl, ha, k ρ1 H1 _ e1 R1 (src_vals R1 ha hk)⟩
theorem iitems {elts : List Expr} {kk : Nat} {tpos : Pos} (he : PE X e (eM T X.K me)) (hbase : attributeBase e "items" X.env (eval e X.env) = eval e X.env := by rfl) (hline : (apos.endLine == cpos.line) = true := by rfl) : PI X (.Tuple elts kk tpos) (.Call (.Attribute e "items" apos) [] [] cpos) (iM T X.K (itemsS me)) := PI.as (pi_items he hbase hline) fun σ H R0 h => by
  obtain ⟨ρ, st, es, s, st', R, Er, hm, k⟩ := h
  obtain ⟨x, s1, h1, h2⟩ := bind_some hm
  obtain ⟨kvs, s2, h3, h4⟩ := bind_some h2
  obtain ⟨rfl, rfl⟩ := pure_some h4
  obtain ⟨n, rfl, hn, rfl⟩ := difOf_some h3
  refine ⟨ρ, st, es, _, _, R, Er, h1, fun ρ1 v1 H1 e1 R1 d1 => ?_⟩
  obtain ⟨a, od, ws, rfl, ha, hk⟩ := R1.dif d1 hn
  exact ⟨a, od, ws, rfl, ha, k ρ1 H1 _ e1 R1 (src_items R1 ha hk)⟩
end
end Mx


/-! Mx34: a constant tuple of texts; (a, .., *r) = tuple; xs[::-1]; sorted(d), list(d), dict(pairs); text * int. -/
namespace Mx
open PySem PySem.Spec L2
variable {T : List (Addr × Str)}

/-! ### a tuple of the module -/
/-- a tuple of texts stands in what never changes -/
def TxtTup (K : PySem.W.Frag) (a : Addr) (xs : List Str) : Prop := ∃ (o : Obj) (its : Array Value) (n : Nat), K.lookup a = some o ∧ o.cls = .type "tuple" ∧ o.data = .seq its n ∧ its.size ≤ sizeLine ∧ Vals (xs.map V.str) its.toList
theorem drs_strs {K : PySem.W.Frag} {ρ : List Addr} {H : Hp} : ∀ xs : List Str, DRs K ρ H (xs.map D.str) (xs.map V.str)
  | [] => DRs.nil
  | x :: xs => DRs.cons (by rw [DR]) (drs_strs xs)
section
variable {X : Cx}
theorem mgt {x : Str} {a : Addr} {xs : List Str} {pos : Pos} (hg : Gl X x) (hm : X.mg x = some (.ref a)) (hk : TxtTup X.K a xs) (hd : (x == ("__debug__" : Str)) = false := by decide) : PE X (.Name x pos) (eM T X.K (cD (.rot (xs.map .str)))) :=
  PE.as (pe_glob (v := .ref a) hg hm rfl hd) fun σ H Q h => by
    obtain ⟨ρ, st, es, d, st', R, Er, hm, k⟩ := h
    obtain ⟨rfl, rfl⟩ := pure_some hm
    exact k ρ (.ref a) H (Ext.refl _ _) R (by rw [DR]; exact ⟨a, _, rfl, .inr hk, drs_strs xs⟩)
end

/-! ### (a, .., *r) = a tuple -/
section
open PySem.W PySem.Calls PyProof.Rows
variable {prog : Program} {w : World} {A : Around} {E : Value → Shared → Prop} {s : Shared} {env : Env} {elts : List Expr} {k : Nat} {pos : Pos}
theorem star_items {l : Addr} {items : Array Value} {n : Nat} {Q : List Value → Shared → Prop} (hl : IsTup s.heap l items) (hh : A.handled = none) (hn : n ≤ items.size) (hz : items.size ≤ sizeLine)
    (h : ∀ h2 tk, Heap.ExtBut s.heap.objs.size s.heap h2 → Q (items.toList.take n ++ [.ref h2.objs.size]) { s with heap := h2.push { cls := .type "list", data := .seq (items.toList.drop n).toArray }, toks := tk }) : wpAny (model prog w) A (unpackItems (.ref l) (n + 1) (some n)) Q E s := by
  have hlt : l ≠ s.heap.objs.size := by obtain ⟨o, ho, _⟩ := hl; exact Nat.ne_of_lt (Heap.lt_size ho)
  unfold unpackItems
  refine wpAny_bind ?_
  unfold notIterableAtAll
  refine wpAny_bind (wpAny_specialOf hl.typeIs slot_tuple_iter.lookup ?_)
  refine wpAny_pure ?_
  simp only [Bool.false_eq_true, if_false]
  refine wpAny_bind (wpAny_holding (iter_tuple hl ?_))
  refine wpAny_bind (wpAny_holding (draw_tuple hlt n 0 _ _ ⟨_, Heap.get?_push_size _ rfl, rfl, rfl⟩ (hl.push _) (by omega) fun h₁ hit₁ hs₁ => ?_))
  have hl₁ : IsTup h₁ l items := (hl.push _).extBut hs₁.extBut hlt
  rw [Nat.zero_add] at hit₁
  have hit₁' := hit₁
  obtain ⟨oi, hoi, _⟩ := hit₁'
  have hl₁' := hl₁
  obtain ⟨ol, hol, _⟩ := hl₁'
  rw [List.drop_zero]
  have hfl : (items.toList.take n).length = n := by rw [List.length_take, Array.length_toList]; omega
  rw [if_neg (show ¬ ((items.toList.take n).length < n) by rw [hfl]; omega)]
  refine wpAny_bind (wpAny_holding (kun_collect (s := { s with heap := h₁ }) (T := "tuple_iterator") (.inr (.inr (.inr rfl))) (Walks.tuple (A := A.in1) hh s.heap.objs.size l hlt items) (fun j u st => st.1.typeIs) (k := n) (by omega) ⟨hit₁, hl₁⟩ (Heap.lt_size hoi) (Heap.lt_size hol) (fun h₂ tk hk => ?_) hz))
  have hrl : (items.toList.drop n).length = items.size - n := by rw [List.length_drop, Array.length_toList]
  have hmid : (items.toList.drop n).length - (n + 1 - 1 - n) = items.size - n := by rw [hrl]; omega
  show wpAny _ _ (if (items.toList.drop n).length < n + 1 - 1 - n then _ else _) _ _ _
  rw [if_neg (by rw [hrl]; omega)]
  show wpAny _ _ (newList ((items.toList.drop n).take ((items.toList.drop n).length - (n + 1 - 1 - n))) >>= fun d => pure (items.toList.take n ++ [d] ++ (items.toList.drop n).drop ((items.toList.drop n).length - (n + 1 - 1 - n)))) _ _ _
  rw [hmid, ← hrl, List.take_length, List.drop_length]
  have he : Heap.ExtBut s.heap.objs.size s.heap h₂ := fun b o hb e => hk b o hb (hs₁.extBut b o hb (Heap.get?_push_of_some _ e))
  refine wpAny_bind (wpAny_newList (s := { s with heap := h₂, toks := tk }) (wpAny_pure ?_) (by rw [hrl]; omega))
  rw [List.append_nil]
  exact h h₂ tk he
theorem star_assign {l : Addr} {items : Array Value} {n : Nat} {Q : Unit → Shared → Prop} (hl : IsTup s.heap l items) (hh : A.handled = none) (hlen : (assignEach elts env).length = n + 1) (hstar : (assignEach elts env).findIdx? (·.1) = some n) (hn : n ≤ items.size) (hz : items.size ≤ sizeLine)
    (h : ∀ h2 tk, Heap.ExtBut s.heap.objs.size s.heap h2 → wpAny (model prog w) A (assignInOrder ((assignEach elts env).map (·.2)) (items.toList.take n ++ [.ref h2.objs.size])) Q E { s with heap := h2.push { cls := .type "list", data := .seq (items.toList.drop n).toArray }, toks := tk }) :
    wpAny (model prog w) A (assign (.Tuple elts k pos) env (.ref l)) Q E s := by
  rw [assign_Tuple]
  refine wpAny_bind (wpAny_standAt ?_)
  unfold unpack
  rw [hlen, hstar]
  exact wpAny_bind (wpAny_holding (star_items hl hh hn hz h))
end
theorem Vals.cut {xs : List V} {us : List Value} (h : Vals xs us) : ∀ n : Nat, Vals (xs.take n) (us.take n) ∧ Vals (xs.drop n) (us.drop n) := by
  induction h with
  | nil => intro n; cases n <;> exact ⟨.nil, .nil⟩
  | cons r rr ih =>
    intro n
    cases n with
    | zero => exact ⟨.nil, .cons r rr⟩
    | succ n => exact ⟨.cons r (ih n).1, (ih n).2⟩
theorem DRs.part {K : PySem.W.Frag} {ρ : List Addr} {H : Hp} : ∀ {ds : List D} {vs : List V} (n : Nat), DRs K ρ H ds vs → DRs K ρ H (ds.take n) (vs.take n) ∧ DRs K ρ H (ds.drop n) (vs.drop n)
  | [], _, n, h => by rw [DRs] at h; subst h; cases n <;> exact ⟨DRs.nil, DRs.nil⟩
  | d :: ds, _, n, h => by
    cases n with
    | zero => exact ⟨DRs.nil, h⟩
    | succ n =>
      rw [DRs] at h
      obtain ⟨v, r, rfl, h1, h2⟩ := h
      exact ⟨DRs.cons h1 (DRs.part n h2).1, (DRs.part n h2).2⟩
def gStar (K : PySem.W.Frag) (n : Nat) (t : TGs) : TG := fun v σ H Q => ∃ a xs, v = .ref a ∧ SqT K H a xs ∧ n ≤ xs.length ∧ ∀ p, H p = none → t (xs.take n ++ [.ref p]) σ (upd H p (.lst (xs.drop n))) Q
section
variable {X : Cx} {pos : Pos}
theorem pg_star {es : List Expr} {k : Nat} {t : TGs} {n : Nat} (hc : X.calm = true) (h : PGs X es t)
    (hn : (assignEach es X.env).length = n + 1 := by rfl) (hst : (assignEach es X.env).findIdx? (·.1) = some n := by rfl) : PG X (.Tuple es k pos) (gStar X.K n t) := by
  refine ⟨fun pins s σ H v u Q I r hw => ?_⟩
  obtain ⟨a, xs, e1, hq, hl, hw⟩ := hw
  subst e1
  cases r
  obtain ⟨its, rv, ht, hz⟩ := I.tuple hq
  have el : xs.length = its.length := rv.length
  refine star_assign ht (I.ok.hd hc) hn hst (by simp [← el]; exact hl) (by simp [← el]; exact hz) fun h2 tk hx => ?_
  have I1 : Inv X pins σ H { s with heap := h2, toks := tk } := I.kept (t' := tk) fun b o e => hx b o (Nat.ne_of_lt (Heap.lt_size e)) e
  have hp : H h2.objs.size = none := I1.hok.fresh (Nat.le_refl _)
  obtain ⟨r1, r2⟩ := Vals.cut rv n
  have I2 : Inv X pins σ (upd H h2.objs.size (.lst (xs.drop n))) { s with heap := h2.push { cls := .type "list", data := .seq (its.drop n).toArray }, toks := tk } :=
    I1.laid (t' := tk) (o := .lst (xs.drop n)) (fun b ob q => Heap.get?_push_of_some _ q) (Nat.le_refl _) ⟨by rw [List.length_drop]; omega, its.drop n, 0, r2, Heap.get?_push_size _ rfl⟩
  exact h.run pins _ σ _ _ _ Q I2 (r1.append (.cons (show RelV (.ref h2.objs.size) (.ref h2.objs.size) from rfl) .nil)) (hw _ hp)
def starG (n : Nat) (g : List D → Es → M Es) : D → Es → M Es
  | .tup ds, es => do
    guardM (decide (n ≤ ds.length))
    let r ← new (.lst (ds.drop n))
    g (ds.take n ++ [r]) es
  | .rot ds, es => do
    guardM (decide (n ≤ ds.length))
    let r ← new (.lst (ds.drop n))
    g (ds.take n ++ [r]) es
  | _, _ => fail
theorem gstar {es : List Expr} {k : Nat} {gs : List D → Es → M Es} {n : Nat} (hc : X.calm = true) (h : PGs X es (gsM T X.K gs))
    (hn : (assignEach es X.env).length = n + 1 := by rfl) (hst : (assignEach es X.env).findIdx? (·.1) = some n := by rfl) : PG X (.Tuple es k pos) (gM T X.K (starG n gs)) := PG.as (pg_star hc h hn hst) fun v σ H Q h => by
  obtain ⟨ρ, st, es, d, es', st', R, Er, hd, hm, k⟩ := h
  have key : ∀ ds a vs, SqT X.K H a vs → DRs X.K ρ H ds vs → (do
      guardM (decide (n ≤ ds.length))
      let r ← new (.lst (ds.drop n))
      gs (ds.take n ++ [r]) es : M Es) st = some (es', st') → gStar X.K n (gsM T X.K gs) (.ref a) σ H Q := by
    intro ds a vs q1 q2 hm
    obtain ⟨hz, hm1⟩ := guarded hm
    obtain ⟨r, s1, hr, hm2⟩ := bind_some hm1
    cases hr
    refine ⟨a, vs, rfl, q1, by rw [q2.length]; exact of_decide_eq_true hz, fun p hp => ?_⟩
    have e1 : Ext ρ H (ρ ++ [p]) (upd H p (.lst (vs.drop n))) := Ext.new' hp
    have R1 := R.push (o := .lst (ds.drop n)) hp fun H' e x => ⟨vs.drop n, e, DRs.ext R x _ _ (q2.part n).2⟩
    exact ⟨ρ ++ [p], _, es, _, es', st', R1, Er.ext R e1, (DRs.ext R e1 _ _ (q2.part n).1).append (DRs.cons (ref_new R) DRs.nil), hm2, fun ρ2 σ2 H2 e2 => k ρ2 σ2 H2 (e1.trans e2)⟩
  cases d with
  | tup ds =>
    obtain ⟨a, vs, rfl, q1, q2⟩ := hd.tup
    exact key ds a vs q1 q2 hm
  | rot ds =>
    obtain ⟨a, vs, rfl, q1, q2⟩ := hd.rot
    exact key ds a vs q1 q2 hm
  | _ => cases hm
/-- the starred one itself: a name within a target list -/
theorem gcons_star {es : List Expr} {e : Expr} {p : Pos} {g : D → Es → M Es} {r : List D → Es → M Es} (h1 : PG X e (gM T X.K g)) (h2 : PGs X es (gsM T X.K r))
    (hs : (assignEach (.Starred e p :: es) X.env).map (·.2) = assign e X.env :: (assignEach es X.env).map (·.2) := by rfl) : PGs X (.Starred e p :: es) (gsM T X.K (consG g r)) := by
  have base : PGs X (.Starred e p :: es) (gCons (gM T X.K g) (gsM T X.K r)) := by
    refine ⟨fun pins s σ H vs us Q I r h => ?_⟩
    obtain ⟨v, vr, e1, h⟩ := h
    subst e1
    cases r with
    | cons r rr =>
      rw [hs]
      refine PyProof.Rows.assignInOrder_cons (thn (h1.run pins s σ H _ _ _ I r h) fun _ s1 ⟨σ1, H1, I1, q1⟩ => ?_)
      exact h2.run pins s1 σ1 H1 _ _ Q I1 rr q1
  refine PGs.as base fun vs σ H Q h => ?_
  obtain ⟨ρ, st, es, ds, es', st', R, Er, hd, hm, k⟩ := h
  cases ds with
  | nil => cases hm
  | cons d ds =>
    rw [DRs] at hd
    obtain ⟨v, w, rfl, d1, d2⟩ := hd
    obtain ⟨es1, s1, h3, h4⟩ := bind_some hm
    exact ⟨v, w, rfl, ρ, st, es, d, es1, s1, R, Er, d1, h3, fun ρ1 σ1 H1 e1 R1 Er1 => ⟨ρ1, s1, es1, ds, es', st', R1, Er1, DRs.ext R e1 _ _ d2, h4, fun ρ2 σ2 H2 e2 => k ρ2 σ2 H2 (e1.trans e2)⟩⟩
end
end Mx


/-! Mx35: sorted(d), list(d), dict(pairs), text * int, xs[::-1]. -/
namespace Mx
open PySem PySem.Spec L2
open PyProof.Rows (sortedS risingS)
variable {T : List (Addr × Str)}

/-! ### texts in order -/
def leS (a b : Str) : Bool := !ltCps b.cps.toList a.cps.toList
theorem leS_iff (a b : Str) : leS a b = true ↔ a.cps.toList ≤ b.cps.toList := by
  unfold leS
  rw [PyProof.Rows.ltCps_eq]
  simp
theorem leS_trans (a b c : Str) (h : leS a b = true) (h2 : leS b c = true) : leS a c = true := by
  rw [leS_iff] at *
  exact List.le_trans h h2
theorem leS_total (a b : Str) : (leS a b || leS b a) = true := by
  rw [Bool.or_eq_true, leS_iff, leS_iff]
  exact List.le_total _ _
theorem leS_anti (a b : Str) (h : leS a b = true) (h2 : leS b a = true) : a = b := by
  rw [leS_iff] at *
  have e := List.le_antisymm h h2
  cases a; cases b
  congr 1
  exact Array.toList_inj.mp e
theorem pair_rising : ∀ (l : List Str) (p : Str), risingS p l = true → (p :: l).Pairwise (fun a b => leS a b = true)
  | [], p, _ => List.pairwise_singleton _ _
  | x :: r, p, h => by
    unfold risingS at h
    rw [Bool.and_eq_true] at h
    have ih := pair_rising r x h.2
    refine List.pairwise_cons.mpr ⟨fun y hy => ?_, ih⟩
    rcases List.mem_cons.mp hy with e | e
    · subst e; exact h.1
    · exact leS_trans _ _ _ h.1 ((List.pairwise_cons.mp ih).1 y e)
theorem pair_sorted (l : List Str) (h : sortedS l = true) : l.Pairwise (fun a b => leS a b = true) := by
  cases l with
  | nil => exact List.Pairwise.nil
  | cons p l => exact pair_rising l p h
def sortS (ks : List Str) : List Str := ks.mergeSort leS
theorem sortS_eq {ys ks : List Str} (p : ys.Perm ks) (h : sortedS ys = true) : ys = sortS ks := by
  refine List.Perm.eq_of_pairwise (le := fun a b => leS a b = true) (fun a b _ _ h1 h2 => leS_anti a b h1 h2) (pair_sorted ys h) (List.pairwise_mergeSort leS_trans leS_total ks) (p.trans (List.mergeSort_perm ks leS).symm)
/-- the texts that are the keys -/
def strKs : List (Key × D) → Option (List Str)
  | [] => some []
  | (.inr x, _) :: r => (strKs r).map (x :: ·)
  | _ => none
theorem strKs_some : ∀ {kvs : List (Key × D)} {ks : List Str}, strKs kvs = some ks → kvs.map (·.1) = ks.map Sum.inr
  | [], ks, h => by cases h; rfl
  | (.inr x, d) :: r, ks, h => by
    unfold strKs at h
    cases q : strKs r with
    | none => rw [q] at h; cases h
    | some rs =>
      rw [q] at h
      cases h
      rw [List.map_cons, List.map_cons, strKs_some q]
  | (.inl i, d) :: r, ks, h => by cases h
def sdicD (x : D) : M D := match x with
  | .ref n => do
    let kvs ← dicAt n
    match strKs kvs with
      | some ks => do
        guardM (decide (ks.length < 64))
        new (.lst ((sortS ks).map .str))
      | none => fail
  | _ => fail
section
variable {X : Cx}
theorem call_sdicM (hc : X.calm = true) : CallR X (.builtin "sorted") (rnM T X.K (on1 sdicD)) := by
  intro pins s σ H xs us Q I rs ⟨ρ, st, as, d, st', R, ha, hg, k⟩
  obtain ⟨x, rfl, hg1⟩ := on1_some hg
  obtain ⟨v, rfl, h1⟩ := ha.one
  cases x with
  | ref n =>
    obtain ⟨kvs, s1, e1, hg2⟩ := bind_some hg1
    obtain ⟨e, rfl⟩ := dicAt_some e1
    obtain ⟨p, ws, rfl, _, q1, q2⟩ := R.rdk h1 e
    cases hk : strKs kvs with
    | none => simp only [hk] at hg2; cases hg2
    | some ks =>
      simp only [hk] at hg2
      obtain ⟨hz, hg3⟩ := guarded hg2
      cases hg3
      refine call_sortedD hc pins s σ H _ us Q I rs ⟨p, ws, ks, rfl, q1, ?_, of_decide_eq_true hz, fun ys q hy hs => ?_⟩
      · rw [KR.keys q2]; exact strKs_some hk
      · rw [sortS_eq hy hs, ← List.map_id ((sortS ks).map V.str), List.map_id]
        exact k.lst R (drs_strs (sortS ks)) q
  | _ => cases hg1
/-- list(x) of a dict too -/
def listE (x : D) : M D := match x with
  | .ref n => fun st => match kvsOf st[n]? with
    | some kvs => new (.lst (kvs.map fun q => kD q.1)) st
    | none => listD (.ref n) st
  | _ => listD x
theorem drs_keys {K : PySem.W.Frag} {ρ : List Addr} {H : Hp} : ∀ {kvs : List (Key × D)} {ws : List (Key × V)}, KR K ρ H kvs ws → DRs K ρ H (kvs.map fun q => kD q.1) (ws.map fun q => kV q.1)
  | [], ws, h => by
    have : ws = [] := h
    subst this; exact DRs.nil
  | (k, d) :: r, ws, ⟨q, rr, h1, h2, h3, h4⟩ => by
    subst h1
    obtain ⟨q1, q2⟩ := q
    cases h2
    exact DRs.cons dr_kD (drs_keys h4)
theorem call_listEM (hc : X.calm = true) : CallR X (.type "list") (rnM T X.K (on1 listE)) := by
  intro pins s σ H xs us Q I rs ⟨ρ, st, as, d, st', R, ha, hg, k⟩
  obtain ⟨x, rfl, hg1⟩ := on1_some hg
  cases x with
  | ref n =>
    have hg2 : (match kvsOf st[n]? with | some kvs => new (.lst (kvs.map fun q => kD q.1)) st | none => listD (.ref n) st) = some (d, st') := hg1
    cases e : kvsOf st[n]? with
    | none =>
      rw [e] at hg2
      exact call_listM pins s σ H xs us Q I rs ⟨ρ, st, _, d, st', R, ha, hg2, k⟩
    | some kvs =>
      rw [e] at hg2
      obtain ⟨v, rfl, h1⟩ := ha.one
      obtain ⟨p, ws, rfl, _, q1, q2⟩ := R.rdk h1 e
      cases hg2
      exact call_listD hc pins s σ H _ us Q I rs ⟨p, ws, rfl, q1, fun q => k.lst R (drs_keys q2) q⟩
  | _ => exact call_listM pins s σ H xs us Q I rs ⟨ρ, st, _, d, st', R, ha, hg1, k⟩

/-! ### xs[::-1] -/
def revD (me : Es → M D) : Es → M D := fun es => do
  let x ← me es
  match x with
    | .ref n => do
      let ds ← lstAt n
      new (.lst ds.reverse)
    | _ => fail
theorem DRs.reverse {K : PySem.W.Frag} {ρ : List Addr} {H : Hp} : ∀ {ds : List D} {vs : List V}, DRs K ρ H ds vs → DRs K ρ H ds.reverse vs.reverse
  | [], _, h => by rw [DRs] at h; subst h; exact DRs.nil
  | d :: ds, _, h => by
    rw [DRs] at h
    obtain ⟨v, r, rfl, h1, h2⟩ := h
    rw [List.reverse_cons, List.reverse_cons]
    exact h2.reverse.append (DRs.cons h1 DRs.nil)
theorem mrev {e : Expr} {me : Es → M D} {k : Nat} {p1 p2 p3 pos : Pos} (he : PE X e (eM T X.K me)) : PE X (.Subscript e (.Slice none none (some (.UnaryOp .USub (.Constant (.int 1) k p1) p2)) p3) pos) (eM T X.K (revD me)) :=
  PE.as (pe_revL he) fun σ H Q h => by
    obtain ⟨ρ, st, es, d, st', R, Er, hm, kk⟩ := h
    obtain ⟨x, s1, h1, h2⟩ := bind_some hm
    refine ⟨ρ, st, es, x, s1, R, Er, h1, fun ρ1 v1 H1 e1 R1 d1 => ?_⟩
    cases x with
    | ref n =>
      obtain ⟨ds, s2, h3, h4⟩ := bind_some h2
      obtain ⟨hn, rfl⟩ := lstAt_some h3
      obtain ⟨l, vs, rfl, _, q1, q2⟩ := R1.lst d1 hn
      cases h4
      exact ⟨l, vs, rfl, SqL.of q1, fun p hp => Post.lst R1 (fun ρ' v H' e2 => kk ρ' v H' (e1.trans e2)) q2.reverse p hp⟩
    | _ => cases h2
end
end Mx


/-! Mx36: dict(pairs), text * int. -/
namespace Mx
open PySem PySem.Spec L2
variable {T : List (Addr × Str)}
def prD (k d : D) : Option (Key × D) := match keyD k with
  | some q => some (q, d)
  | none => none
def prOf : D → Option (Key × D)
  | .tup [k, d] => prD k d
  | .rot [k, d] => prD k d
  | _ => none
def prsOf : List D → Option (List (Key × D))
  | [] => some []
  | x :: r => match prOf x, prsOf r with
    | some p, some ps => some (p :: ps)
    | _, _ => none
section
variable {K : PySem.W.Frag} {ρ : List Addr} {H : Hp}
theorem prD_some {k d : D} {kv : Key × D} {vs : List V} (h : DRs K ρ H [k, d] vs) (e : prD k d = some kv) : ∃ v, vs = [kV kv.1, v] ∧ DR K ρ H kv.2 v := by
  obtain ⟨a, b, rfl, h1, h2⟩ := h.two
  unfold prD at e
  cases q : keyD k with
  | none => rw [q] at e; cases e
  | some z =>
    rw [q] at e
    cases e
    exact ⟨b, by rw [keyD_of h1 q], h2⟩
theorem prOf_some {x : D} {kv : Key × D} {v : V} (h : DR K ρ H x v) (e : prOf x = some kv) : ∃ a w, v = .ref a ∧ SqT K H a [kV kv.1, w] ∧ DR K ρ H kv.2 w := by
  unfold prOf at e
  split at e
  · obtain ⟨a, vs, rfl, q1, q2⟩ := h.tup
    obtain ⟨w, rfl, z⟩ := prD_some q2 e
    exact ⟨a, w, rfl, q1, z⟩
  · obtain ⟨a, vs, rfl, q1, q2⟩ := h.rot
    obtain ⟨w, rfl, z⟩ := prD_some q2 e
    exact ⟨a, w, rfl, q1, z⟩
  · cases e
theorem prsOf_some : ∀ {ds : List D} {vs : List V} {kvs : List (Key × D)}, DRs K ρ H ds vs → prsOf ds = some kvs → ∃ (ps : List Addr) (ws : List (Key × V)), vs = ps.map V.ref ∧ Paired (fun p (kv : Key × V) => SqT K H p [kV kv.1, kv.2]) ps ws ∧ KR K ρ H kvs ws
  | [], _, _, h, e => by rw [DRs] at h; subst h; cases e; exact ⟨[], [], rfl, .nil, rfl⟩
  | x :: r, _, kvs, h, e => by
    rw [DRs] at h
    obtain ⟨v, vr, rfl, h1, h2⟩ := h
    unfold prsOf at e
    cases q : prOf x with
    | none => rw [q] at e; cases e
    | some p =>
      cases q2 : prsOf r with
      | none => rw [q, q2] at e; cases e
      | some rs =>
        rw [q, q2] at e
        cases e
        obtain ⟨a, w, rfl, s1, s2⟩ := prOf_some h1 q
        obtain ⟨ps, ws, rfl, s3, s4⟩ := prsOf_some h2 q2
        exact ⟨a :: ps, (p.1, w) :: ws, rfl, .cons s1 s3, (p.1, w), ws, rfl, rfl, s2, s4⟩
end
/-- dict(x) of a list of pairs too -/
def dictE (x : D) : M D := match x with
  | .ref n => fun st => match st[n]? with
    | some (.lst ds) => match prsOf ds with
      | some kvs => new (.dic (merge [] kvs)) st
      | none => none
    | _ => dictD (.ref n) st
  | _ => dictD x
section
variable {X : Cx}
theorem call_dictEM (hc : X.calm = true) : CallR X (.type "dict") (rnM T X.K (on1 dictE)) := by
  intro pins s σ H xs us Q I rs ⟨ρ, st, as, d, st', R, ha, hg, k⟩
  obtain ⟨x, rfl, hg1⟩ := on1_some hg
  cases x with
  | ref n =>
    by_cases e : ∃ ds, st[n]? = some (.lst ds)
    · obtain ⟨ds, e⟩ := e
      have hg2 : (match st[n]? with | some (.lst ds) => (match prsOf ds with | some kvs => new (.dic (merge [] kvs)) st | none => none) | _ => dictD (.ref n) st) = some (d, st') := hg1
      rw [e] at hg2
      cases hp : prsOf ds with
      | none => simp only [hp] at hg2; cases hg2
      | some kvs =>
        simp only [hp] at hg2
        cases hg2
        obtain ⟨v, rfl, h1⟩ := ha.one
        obtain ⟨l, vs, rfl, _, q1, q2⟩ := R.lst h1 e
        obtain ⟨ps, ws, rfl, s1, s2⟩ := prsOf_some q2 hp
        refine call_dictP hc pins s σ H _ us Q I rs ⟨l, ps, ws, rfl, SqL.of q1, s1, fun p hp => ?_⟩
        exact k.dic R (KR.merge s2 rfl) p hp
    · have hg2 : dictD (.ref n) st = some (d, st') := by
        have hg3 : (match st[n]? with | some (.lst ds) => (match prsOf ds with | some kvs => new (.dic (merge [] kvs)) st | none => none) | _ => dictD (.ref n) st) = some (d, st') := hg1
        split at hg3
        · rename_i ds e2; exact absurd ⟨ds, e2⟩ e
        · exact hg3
      exact call_dictM pins s σ H xs us Q I rs ⟨ρ, st, _, d, st', R, ha, hg2, k⟩
  | _ => exact call_dictM pins s σ H xs us Q I rs ⟨ρ, st, _, d, st', R, ha, hg1, k⟩

/-! ### text * int -/
def repS (x : Str) (n : Int) : Str := if n < 1 then Str.empty else if (n == 1 || x.length == 0) = true then x else ⟨(List.replicate n.toNat x.cps).foldl (· ++ ·) #[]⟩
def mulE : D → D → M D
  | .str x, .int k => do
    guardM (decide (0 ≤ k) && decide (k ≤ 64) && decide (x.length ≤ 64) && decide ((repS x k).length ≤ sizeLine))
    pure (.str (repS x k))
  | a, b => mulD a b
theorem op_mulE : OpR X (binaryOp .Mult) (r2M T X.K mulE) := by
  intro pins s σ H x y v u Q I rx ry ⟨ρ, st, a, b, d, st', R, ha, hb, hg, k⟩
  unfold mulE at hg
  split at hg
  · rename_i z j
    obtain ⟨hz, hg⟩ := guarded hg
    obtain ⟨rfl, rfl⟩ := pure_some hg
    simp only [Bool.and_eq_true, decide_eq_true_eq] at hz
    obtain ⟨⟨⟨h1, h2⟩, h3⟩, h4⟩ := hz
    have kk : Q (.str (repS z j)) H := k.now R (by rw [DR])
    have ev := ha.str
    have ew := hb.int
    subst ev ew
    obtain ⟨t, rfl⟩ := rx
    obtain ⟨t', rfl⟩ := ry
    refine PySem.P.mul_str ?_ (fun g1 g2 => ?_) (fun g1 g2 => ?_) ?_
    · rw [decide_eq_false (by omega), decide_eq_false (by omega)]; rfl
    · have e1 : (z.length : Int) ≤ 64 := by omega
      have e2 : (2 ^ 63 - 1 : Int) / j ≥ 64 := by
        have : (64 : Int) * j ≤ 2 ^ 63 - 1 := by omega
        exact Int.le_ediv_of_mul_le (by omega) this
      omega
    · have e1 : z.length * j.toNat ≤ 64 * 64 := Nat.mul_le_mul h3 (by omega)
      show decide (z.length * j.toNat > sizeLine) = false
      rw [sizeLine_eq, decide_eq_false (by omega)]
    · by_cases c1 : j < 1
      · have e : repS z j = Str.empty := by unfold repS; rw [if_pos c1]
        rw [if_pos c1]
        rw [e] at kk h4
        exact ⟨h4, .str _, H, I.tok _, ⟨_, rfl⟩, kk⟩
      · rw [if_neg c1]
        by_cases c2 : (j == 1 || z.length == 0) = true
        · have e : repS z j = z := by unfold repS; rw [if_neg c1, if_pos c2]
          rw [if_pos c2]
          rw [e] at kk
          exact ⟨.str _, H, I, ⟨_, rfl⟩, kk⟩
        · have e : repS z j = ⟨(List.replicate j.toNat z.cps).foldl (· ++ ·) #[]⟩ := by unfold repS; rw [if_neg c1, if_neg c2]
          rw [if_neg c2]
          rw [e] at kk h4
          exact ⟨h4, .str _, H, I.tok _, ⟨_, rfl⟩, kk⟩
  · exact op_mulM pins s σ H x y v u Q I rx ry ⟨ρ, st, _, _, d, st', R, ha, hb, hg, k⟩
theorem mgtx {x : Str} {xs : List Str} {pos : Pos} (hg : Gl X x) (h : ∃ a, X.mg x = some (.ref a) ∧ TxtTup X.K a xs) (hd : (x == ("__debug__" : Str)) = false := by decide) : PE X (.Name x pos) (eM T X.K (cD (.rot (xs.map .str)))) :=
  let ⟨_, h1, h2⟩ := h
  mgt hg h1 h2 hd
variable {a b : Expr} {ma mb : Es → M D} {pos : Pos}
theorem mmul (ha : PE X a (eM T X.K ma)) (hb : PE X b (eM T X.K mb)) : PE X (.BinOp a .Mult b pos) (eM T X.K (opD mulE ma mb)) :=
  PE.as (pe_op op_mulE ha hb) fun _ _ _ h => two_of (fun _ _ _ _ q => q) h
end
theorem chain_of {X : Cx} {ma mb mc : Es → M D} {g g' : D → D → M D} {σ : St} {H : Hp} {Q : VK} (h : eM T X.K (chD g g' ma mb mc) σ H Q) : tChain (r2M T X.K g) (r2M T X.K g') (eM T X.K ma) (eM T X.K mb) (eM T X.K mc) σ H Q := by
  obtain ⟨ρ, st, es, d, st', R, E, hm, k⟩ := h
  obtain ⟨x, s1, h1, hm1⟩ := bind_some hm
  obtain ⟨y, s2, h2, hm2⟩ := bind_some hm1
  obtain ⟨z, s3, h3, hm3⟩ := bind_some hm2
  refine ⟨ρ, st, es, x, s1, R, E, h1, fun ρ1 v1 H1 e1 R1 d1 => ⟨ρ1, s1, es, y, s2, R1, E.ext R e1, h2, fun ρ2 v2 H2 e2 R2 d2 => ⟨ρ2, s2, x, y, z, s3, R2, DR.ext R1 e2 _ _ d1, d2, h3, fun ρ3 v3 H3 e3 R3 d3 => ?_⟩⟩⟩
  cases z with
  | bl q =>
    refine ⟨q, d3.bl, ?_⟩
    cases q with
    | false =>
      obtain ⟨rfl, rfl⟩ := pure_some hm3
      rw [if_neg Bool.false_ne_true]
      exact k ρ3 _ H3 ((e1.trans e2).trans e3) R3 (by rw [DR])
    | true =>
      obtain ⟨w, s4, h4, h5⟩ := bind_some hm3
      rw [if_pos rfl]
      refine ⟨ρ3, s3, es, w, s4, R3, E.ext R ((e1.trans e2).trans e3), h4, fun ρ4 v4 H4 e4 R4 d4 => ⟨ρ4, s4, y, w, d, st', R4, DR.ext R2 (e3.trans e4) _ _ d2, d4, h5, fun ρ5 v5 H5 e5 R5 d5 => ?_⟩⟩
      exact k ρ5 v5 H5 ((((e1.trans e2).trans e3).trans e4).trans e5) R5 d5
  | _ => cases hm3
/-- a chain as a test -/
theorem mtchainP {X : Cx} {a b c : Expr} {ma mb mc : Es → M D} {pos : Pos} {op op' : CmpOp} {g g' : D → D → M D} (ho : OpR X (compareOp op) (r2M T X.K g)) (ho' : OpR X (compareOp op') (r2M T X.K g')) (ha : PE X a (eM T X.K ma)) (hb : PE X b (eM T X.K mb)) (hc : PE X c (eM T X.K mc))
    (hm : lastMarks [op, op'] [b, c] = false := by with_unfolding_all rfl) : PT X (.Compare a [op, op'] [b, c] pos) (tM T X.K (tstD (chD g g' ma mb mc))) :=
  PT.as (pt_chain ho ho' ha hb hc hm) fun σ H Q q => chain_of (tst_of q)
end Mx
theorem Mx.bt_sorted : PySem.bootBuiltins "sorted" = some (.builtin "sorted") := PyProof.Rows.boot_sorted


/-! Mx37: the sorts told by an insertion, which the kernel can run. -/
namespace Mx
open PySem PySem.Spec L2
section
variable {α : Type} {le : α → α → Bool}
def ins (le : α → α → Bool) (x : α) : List α → List α
  | [] => [x]
  | y :: r => if le x y = true then x :: y :: r else y :: ins le x r
def isort (le : α → α → Bool) : List α → List α
  | [] => []
  | x :: r => ins le x (isort le r)
theorem ins_perm (x : α) : ∀ l, (ins le x l).Perm (x :: l)
  | [] => List.Perm.refl _
  | y :: r => by
    unfold ins
    split
    · exact List.Perm.refl _
    · exact ((ins_perm x r).cons y).trans (List.Perm.swap x y r)
theorem isort_perm : ∀ l : List α, (isort le l).Perm l
  | [] => List.Perm.refl _
  | x :: r => (ins_perm x _).trans ((isort_perm r).cons x)
theorem ins_sorted (tr : ∀ a b c, le a b = true → le b c = true → le a c = true) (to : ∀ a b, (le a b || le b a) = true) (x : α) : ∀ l, l.Pairwise (fun a b => le a b = true) → (ins le x l).Pairwise (fun a b => le a b = true)
  | [], _ => List.pairwise_singleton _ _
  | y :: r, h => by
    obtain ⟨h1, h2⟩ := List.pairwise_cons.mp h
    unfold ins
    split
    · rename_i q
      refine List.pairwise_cons.mpr ⟨fun z hz => ?_, h⟩
      rcases List.mem_cons.mp hz with e | e
      · rw [e]; exact q
      · exact tr _ _ _ q (h1 z e)
    · rename_i q
      have q2 : le y x = true := by
        have := to x y
        rw [Bool.or_eq_true] at this
        exact this.resolve_left q
      refine List.pairwise_cons.mpr ⟨fun z hz => ?_, ins_sorted tr to x r h2⟩
      rcases List.mem_cons.mp ((ins_perm x r).mem_iff.mp hz) with e | e
      · rw [e]; exact q2
      · exact h1 z e
theorem isort_sorted (tr : ∀ a b c, le a b = true → le b c = true → le a c = true) (to : ∀ a b, (le a b || le b a) = true) : ∀ l : List α, (isort le l).Pairwise (fun a b => le a b = true)
  | [] => List.Pairwise.nil
  | x :: r => ins_sorted tr to x _ (isort_sorted tr to r)
theorem merge_isort (tr : ∀ a b c, le a b = true → le b c = true → le a c = true) (to : ∀ a b, (le a b || le b a) = true) {l : List α} (an : ∀ a ∈ l, ∀ b ∈ l, le a b = true → le b a = true → a = b) : l.mergeSort le = isort le l := by
  refine List.Perm.eq_of_pairwise (le := fun a b => le a b = true) (fun a b ha hb h1 h2 => an a ?_ b ?_ h1 h2) (List.pairwise_mergeSort tr to l) (isort_sorted tr to l) ((List.mergeSort_perm l le).trans (isort_perm l).symm)
  · exact (List.mergeSort_perm l le).mem_iff.mp ha
  · exact (isort_perm l).mem_iff.mp hb
end
theorem sortS_isort (ks : List Str) : sortS ks = isort leS ks := merge_isort leS_trans leS_total fun a _ b _ h1 h2 => leS_anti a b h1 h2
def sdicI (x : D) : M D := match x with
  | .ref n => do
    let kvs ← dicAt n
    match strKs kvs with
      | some ks => do
        guardM (decide (ks.length < 64))
        new (.lst ((isort leS ks).map .str))
      | none => fail
  | _ => fail
theorem sdicI_eq : sdicI = sdicD := by
  funext x
  cases x with
  | ref n =>
    show (dicAt n >>= _) = (dicAt n >>= _)
    congr 1
    funext kvs
    cases strKs kvs with
    | none => rfl
    | some ks =>
      show (guardM _ >>= fun _ => new (.lst ((isort leS ks).map .str))) = (guardM _ >>= fun _ => new (.lst ((sortS ks).map .str)))
      rw [sortS_isort]
  | _ => rfl
theorem call_sdicI {T : List (Addr × Str)} {X : Cx} (hc : X.calm = true) : CallR X (.builtin "sorted") (rnM T X.K (on1 sdicI)) := by rw [sdicI_eq]; exact call_sdicM hc
/-! ### sets of nested tuples -/
section
open PyProof.Rows PySem.W PySem.SeqAt
def sortI (ks : List NestedKey) : List D := (isort (leK id) (dedupN ks)).map rotK
theorem sortI_eq {ks : List NestedKey} (h : goodB ks = true) : sortI ks = sortN ks := by
  have g := goodB_of h
  unfold sortI sortN
  have tl := sortLe_total (listOrd itemOrd) false fun q : NestedKey => tkK q
  rw [merge_isort (le := leK id) (fun a b c => tl.trans a b c) (fun a b => by rw [Bool.or_eq_true]; exact tl.total a b) fun a ha b hb h1 h2 => leK_anti (g.ok a (mem_dedupN.mp ha) b (mem_dedupN.mp hb)) h1 h2]
def nsetI (me : Es → M D) : Es → M D := fun es => do
  let x ← me es
  match x with
    | .ref n => do
      let ds ← lstAt n
      match nkDs ds with
        | some ks => do
          guardM (goodB ks)
          new (.lst (sortI ks))
        | none => fail
    | _ => fail
theorem nsetI_eq (me : Es → M D) : nsetI me = nsetD me := by
  funext es
  show (me es >>= _) = (me es >>= _)
  congr 1
  funext x
  cases x with
  | ref n =>
    show (lstAt n >>= _) = (lstAt n >>= _)
    congr 1
    funext ds
    cases nkDs ds with
    | none => rfl
    | some ks =>
      show (guardM (goodB ks) >>= fun _ => new (.lst (sortI ks))) = (guardM (goodB ks) >>= fun _ => new (.lst (sortN ks)))
      cases h : goodB ks with
      | false => rfl
      | true => rw [sortI_eq h]
  | _ => rfl
theorem msetI {T : List (Addr × Str)} {X : Cx} {a : Expr} {me : Es → M D} {p pos p2 pos2 : Pos} (hc : X.calm = true) (hu : X.A.units + 64 < cLine) (ha : PE X a (eM T X.K me)) (hg : Gl X "sorted" := by rfl) (hm : X.mg "sorted" = none) (hg2 : Gl X "set" := by rfl) (hm2 : X.mg "set" = none)
    (na : starEach [a] X.env = (false, eval a X.env) :: starEach [] X.env := by rfl) (nb : starEach [.Call (.Name "set" p2) [a] [] pos2] X.env = (false, eval (.Call (.Name "set" p2) [a] [] pos2) X.env) :: starEach [] X.env := by rfl) :
    PE X (.Call (.Name "sorted" p) [.Call (.Name "set" p2) [a] [] pos2] [] pos) (eM T X.K (nsetI me)) := by
  rw [nsetI_eq]
  exact msetN hc hu ha hg hm hg2 hm2 na nb
end
end Mx


/-! Mx38: what the new forms surely reach. -/
namespace Mx
open PySem PySem.Spec L2
section
variable {α : Type} {st : S} {es : Es} {Q : D → S → Prop} {QR : Src → S → Prop} {QE : Es → S → Prop}
theorem run_lockS {i n : Nat} {m : Es → M α} {QA : α → S → Prop} {kvs : List (Key × D)} (hi : es[i]? = some (some (.ref n))) (hn : st[n]? = some (.dic kvs)) : Rn (lockS i m es) st QA = Rn (m es) (st.set n (.dif kvs)) fun r s1 => match s1[n]? with
    | some (.dif kvs') => QA r (s1.set n (.dic kvs'))
    | _ => False := by
  unfold lockS
  rw [hi]
  show Rn (lockN n (m es)) st QA = _
  unfold Rn lockN
  rw [hn]
  dsimp only
  cases m es (st.set n (.dif kvs)) with
  | none => rfl
  | some p =>
    obtain ⟨r, s1⟩ := p
    dsimp only
    cases s1[n]? with
    | none => rfl
    | some o => cases o <;> rfl
theorem run_difAt {n : Nat} {kvs : List (Key × D)} {QL : List (Key × D) → S → Prop} (hn : st[n]? = some (.dif kvs)) : Rn (difOf (.ref n)) st QL = QL kvs st := run_some (by
  show difAt n st = _
  unfold difAt
  rw [hn])
theorem run_keysS {me : Es → M D} : Rn (keysS me es) st QR = Rn (me es) st fun x s => Rn (difOf x) s fun kvs s2 => QR (.seq (kvs.map fun q => kD q.1)) s2 := by
  unfold keysS
  repeat (first | rfl | rw [run_bind] | simp only [run_guard, run_new, run_pure, decide_eq_true_eq] | refine Rn_q (funext fun _ => funext fun _ => ?_))
theorem run_valsS {me : Es → M D} : Rn (valsS me es) st QR = Rn (me es) st fun x s => Rn (difOf x) s fun kvs s2 => QR (.seq (kvs.map fun q => q.2)) s2 := by
  unfold valsS
  repeat (first | rfl | rw [run_bind] | simp only [run_guard, run_new, run_pure, decide_eq_true_eq] | refine Rn_q (funext fun _ => funext fun _ => ?_))
theorem run_itemsS {me : Es → M D} : Rn (itemsS me es) st QR = Rn (me es) st fun x s => Rn (difOf x) s fun kvs s2 => QR (.seq (kvs.map fun q => .tup [kD q.1, q.2])) s2 := by
  unfold itemsS
  repeat (first | rfl | rw [run_bind] | simp only [run_guard, run_new, run_pure, decide_eq_true_eq] | refine Rn_q (funext fun _ => funext fun _ => ?_))
@[simp] theorem run_starT {n : Nat} {ds : List D} {g : List D → Es → M Es} : Rn (starG n g (.tup ds) es) st QE = (n ≤ ds.length ∧ Rn (g (ds.take n ++ [.ref st.length]) es) (st ++ [.lst (ds.drop n)]) QE) := by
  show Rn (guardM _ >>= _) st QE = _
  rw [run_bind, run_guard, decide_eq_true_eq, run_bind, run_new]
@[simp] theorem run_starR {n : Nat} {ds : List D} {g : List D → Es → M Es} : Rn (starG n g (.rot ds) es) st QE = (n ≤ ds.length ∧ Rn (g (ds.take n ++ [.ref st.length]) es) (st ++ [.lst (ds.drop n)]) QE) := by
  show Rn (guardM _ >>= _) st QE = _
  rw [run_bind, run_guard, decide_eq_true_eq, run_bind, run_new]
theorem run_lstAt {n : Nat} {ds : List D} {QL : List D → S → Prop} (h : st[n]? = some (.lst ds)) : Rn (lstAt n) st QL = QL ds st := run_some (by unfold lstAt; rw [h])
@[simp] theorem run_revD {me : Es → M D} : Rn (revD me es) st Q = Rn (me es) st fun x s => match x with
    | .ref n => Rn (lstAt n) s fun ds s2 => Q (.ref s2.length) (s2 ++ [.lst ds.reverse])
    | _ => False := by
  unfold revD
  rw [run_bind]
  refine Rn_q (funext fun x => funext fun s => ?_)
  cases x with
  | ref n => show Rn (lstAt n >>= _) s Q = _; rw [run_bind]; rfl
  | _ => rfl
@[simp] theorem run_nsetI {me : Es → M D} : Rn (nsetI me es) st Q = Rn (me es) st fun x s => match x with
    | .ref n => Rn (lstAt n) s fun ds s2 => match nkDs ds with
      | some ks => goodB ks = true ∧ Q (.ref s2.length) (s2 ++ [.lst (sortI ks)])
      | none => False
    | _ => False := by
  unfold nsetI
  rw [run_bind]
  refine Rn_q (funext fun x => funext fun s => ?_)
  cases x with
  | ref n =>
    show Rn (lstAt n >>= _) s Q = _
    rw [run_bind]
    dsimp only
    refine Rn_q (funext fun ds => funext fun s2 => ?_)
    cases nkDs ds with
    | none => rfl
    | some ks => show Rn (guardM _ >>= _) s2 Q = _; rw [run_bind, run_guard]; rfl
  | _ => rfl
theorem run_sdicI {n : Nat} {kvs : List (Key × D)} {ks : List Str} (h : kvsOf st[n]? = some kvs) (hk : strKs kvs = some ks) (hz : ks.length < 64) : Rn (on1 sdicI [.ref n]) st Q = Q (.ref st.length) (st ++ [.lst ((isort leS ks).map .str)]) := by
  show Rn (dicAt n >>= _) st Q = _
  rw [run_bind, run_some (m := dicAt n) (a := kvs) (s := st) (by unfold dicAt; rw [h]), hk]
  show Rn (guardM _ >>= _) st Q = _
  rw [run_bind, run_guard, decide_eq_true_eq]
  simp [hz]
theorem run_listE_dic {n : Nat} {kvs : List (Key × D)} (h : kvsOf st[n]? = some kvs) : Rn (on1 listE [.ref n]) st Q = Q (.ref st.length) (st ++ [.lst (kvs.map fun q => kD q.1)]) := run_some (by
  show (match kvsOf st[n]? with | some kvs => new (.lst (kvs.map fun (q : Key × D) => kD q.1)) st | none => listD (.ref n) st) = _
  rw [h]
  rfl)
theorem run_listE_lst {n : Nat} {ds : List D} (h : st[n]? = some (.lst ds)) : Rn (on1 listE [.ref n]) st Q = Q (.ref st.length) (st ++ [.lst ds]) := by
  have e : (on1 listE [.ref n] : M D) st = listD (.ref n) st := by
    show (match kvsOf st[n]? with | some kvs => new (.lst (kvs.map fun (q : Key × D) => kD q.1)) st | none => listD (.ref n) st) = _
    rw [h]
    rfl
  have e2 : Rn (on1 listE [.ref n]) st Q = Rn (listD (.ref n)) st Q := by unfold Rn; rw [e]
  rw [e2]
  show Rn (lstAt n >>= _) st Q = _
  rw [run_bind, run_lstAt h]
  rfl
theorem run_listE_tup {ds : List D} : Rn (on1 listE [.tup ds]) st Q = Q (.ref st.length) (st ++ [.lst ds]) := rfl
theorem run_dictE_lst {n : Nat} {ds : List D} {kvs : List (Key × D)} (h : st[n]? = some (.lst ds)) (hk : prsOf ds = some kvs) : Rn (on1 dictE [.ref n]) st Q = Q (.ref st.length) (st ++ [.dic (merge [] kvs)]) := run_some (by
  show (match st[n]? with | some (.lst ds) => (match prsOf ds with | some kvs => new (.dic (merge [] kvs)) st | none => none) | _ => dictD (.ref n) st) = _
  rw [h]
  dsimp only
  rw [hk]
  rfl)
theorem run_dictE_dic {n : Nat} {kvs : List (Key × D)} (h : st[n]? = some (.dic kvs)) : Rn (on1 dictE [.ref n]) st Q = Q (.ref st.length) (st ++ [.dic kvs]) := by
  have e : (on1 dictE [.ref n] : M D) st = dictD (.ref n) st := by
    show (match st[n]? with | some (.lst ds) => (match prsOf ds with | some kvs => new (.dic (merge [] kvs)) st | none => none) | _ => dictD (.ref n) st) = _
    rw [h]
  have e2 : Rn (on1 dictE [.ref n]) st Q = Rn (dictD (.ref n)) st Q := by unfold Rn; rw [e]
  rw [e2]
  show Rn (dicAt n >>= _) st Q = _
  rw [run_bind, run_some (m := dicAt n) (a := kvs) (s := st) (by unfold dicAt; rw [h]; rfl)]
  rfl
end
end Mx


namespace K37
open PySem PySem.Spec L2 Mx
def top (i : Nat) : Stmt := PySem.Challenge.pw_earlysettled_k37_bounds_of_books.main.body.getD i (.Pass ⟨0, 0, 0, 0⟩)
inductive Fn where
  | Fis_whole
  | Fis_decimal
  | Fis_high
  | Fis_low
  | Fis_point
  | Fis_points
  | Fare_items
  | Fare_members
  | Fis_value_within
  | Fis_value
  | Fis_test
  | Fis_pattern_within
  | Fis_pattern
  | Fplaces_of
  | Fis_type_name
  | Fare_tests_of
  | Fare_triples
  | Fis_case
  | Fcases_in
  | Ftests_in
  | Fpoints_in
  | Fis_book
  | Fneed_book
  | Ftests_of
  | Fknown_of
  | F_law_begun
  | F_law_mixed
  | F_law_draw
  | F_law_pick
  | F_law_shuffled
  | F_law_number
  | F_law_some_test
  | F_law_some_pattern
  | F_law_some_points
  | F_law_some_members
  | F_law_some_case
  | F_law_some_book
  | F_law_names
  | F_law_wide
  | F_law_balanced
  | F_law_some_bent
  | Flaw
def Fn.nm : Fn → Str
  | .Fis_whole => "is_whole"
  | .Fis_decimal => "is_decimal"
  | .Fis_high => "is_high"
  | .Fis_low => "is_low"
  | .Fis_point => "is_point"
  | .Fis_points => "is_points"
  | .Fare_items => "are_items"
  | .Fare_members => "are_members"
  | .Fis_value_within => "is_value_within"
  | .Fis_value => "is_value"
  | .Fis_test => "is_test"
  | .Fis_pattern_within => "is_pattern_within"
  | .Fis_pattern => "is_pattern"
  | .Fplaces_of => "places_of"
  | .Fis_type_name => "is_type_name"
  | .Fare_tests_of => "are_tests_of"
  | .Fare_triples => "are_triples"
  | .Fis_case => "is_case"
  | .Fcases_in => "cases_in"
  | .Ftests_in => "tests_in"
  | .Fpoints_in => "points_in"
  | .Fis_book => "is_book"
  | .Fneed_book => "need_book"
  | .Ftests_of => "tests_of"
  | .Fknown_of => "known_of"
  | .F_law_begun => "_law_begun"
  | .F_law_mixed => "_law_mixed"
  | .F_law_draw => "_law_draw"
  | .F_law_pick => "_law_pick"
  | .F_law_shuffled => "_law_shuffled"
  | .F_law_number => "_law_number"
  | .F_law_some_test => "_law_some_test"
  | .F_law_some_pattern => "_law_some_pattern"
  | .F_law_some_points => "_law_some_points"
  | .F_law_some_members => "_law_some_members"
  | .F_law_some_case => "_law_some_case"
  | .F_law_some_book => "_law_some_book"
  | .F_law_names => "_law_names"
  | .F_law_wide => "_law_wide"
  | .F_law_balanced => "_law_balanced"
  | .F_law_some_bent => "_law_some_bent"
  | .Flaw => "law"
def Fn.ps : Fn → List Str
  | .Fis_whole => ["value"]
  | .Fis_decimal => ["value"]
  | .Fis_high => ["unit"]
  | .Fis_low => ["unit"]
  | .Fis_point => ["value"]
  | .Fis_points => ["value"]
  | .Fare_items => ["thing", "left"]
  | .Fare_members => ["thing", "left"]
  | .Fis_value_within => ["thing", "left"]
  | .Fis_value => ["thing"]
  | .Fis_test => ["thing"]
  | .Fis_pattern_within => ["thing", "names", "deep"]
  | .Fis_pattern => ["thing", "names"]
  | .Fplaces_of => ["pattern"]
  | .Fis_type_name => ["thing"]
  | .Fare_tests_of => ["thing", "kind"]
  | .Fare_triples => ["thing", "names"]
  | .Fis_case => ["thing", "names"]
  | .Fcases_in => ["book"]
  | .Ftests_in => ["book"]
  | .Fpoints_in => ["book"]
  | .Fis_book => ["thing"]
  | .Fneed_book => ["book"]
  | .Ftests_of => ["book"]
  | .Fknown_of => ["book"]
  | .F_law_begun => ["script"]
  | .F_law_mixed => ["state"]
  | .F_law_draw => ["state", "room"]
  | .F_law_pick => ["state", "some"]
  | .F_law_shuffled => ["state", "some"]
  | .F_law_number => ["above", "tens"]
  | .F_law_some_test => ["state", "kind"]
  | .F_law_some_pattern => ["state", "names", "deep"]
  | .F_law_some_points => ["state"]
  | .F_law_some_members => ["state", "names"]
  | .F_law_some_case => ["state", "names", "tests"]
  | .F_law_some_book => ["state", "most"]
  | .F_law_names => ["many"]
  | .F_law_wide => ["way", "many"]
  | .F_law_balanced => ["many"]
  | .F_law_some_bent => ["state", "book"]
  | .Flaw => ["script"]
def Fn.ns : Fn → List Str
  | .Fis_whole => ["value"]
  | .Fis_decimal => ["value"]
  | .Fis_high => ["unit"]
  | .Fis_low => ["unit"]
  | .Fis_point => ["value"]
  | .Fis_points => ["value", "one", "other", "item"]
  | .Fare_items => ["thing", "left", "one"]
  | .Fare_members => ["thing", "left", "names", "pair"]
  | .Fis_value_within => ["thing", "left", "word", "parts"]
  | .Fis_value => ["thing"]
  | .Fis_test => ["thing"]
  | .Fis_pattern_within => ["thing", "names", "deep", "one"]
  | .Fis_pattern => ["thing", "names"]
  | .Fplaces_of => ["pattern", "found", "one"]
  | .Fis_type_name => ["thing", "sign"]
  | .Fare_tests_of => ["thing", "kind", "one"]
  | .Fare_triples => ["thing", "names", "met", "one"]
  | .Fis_case => ["thing", "names"]
  | .Fcases_in => ["book", "found", "name", "case"]
  | .Ftests_in => ["book", "found", "name", "case"]
  | .Fpoints_in => ["book", "found", "name", "case", "one"]
  | .Fis_book => ["thing", "cases", "name", "one"]
  | .Fneed_book => ["book"]
  | .Ftests_of => ["book"]
  | .Fknown_of => ["book"]
  | .F_law_begun => ["script", "great", "cell"]
  | .F_law_mixed => ["state", "turn", "found", "prime", "blend", "cell"]
  | .F_law_draw => ["state", "room", "found"]
  | .F_law_pick => ["state", "some"]
  | .F_law_shuffled => ["state", "some", "left", "found"]
  | .F_law_number => ["above", "tens"]
  | .F_law_some_test => ["state", "kind", "sign"]
  | .F_law_some_pattern => ["state", "names", "deep", "way"]
  | .F_law_some_points => ["state"]
  | .F_law_some_members => ["state", "names", "found", "lap", "points", "one"]
  | .F_law_some_case => ["state", "names", "tests", "way", "kind", "some", "test", "lap"]
  | .F_law_some_book => ["state", "most", "names", "tests", "found", "lap", "test", "name"]
  | .F_law_names => ["many", "nth"]
  | .F_law_wide => ["way", "many", "members", "pattern", "lap", "nth", "name"]
  | .F_law_balanced => ["many"]
  | .F_law_some_bent => ["state", "book", "name", "cases", "bad", "some", "there", "key", "thing"]
  | .Flaw => ["script", "state", "way", "most", "test", "six", "lap", "book", "nth", "name"]
def Fn.st : Fn → Stmt
  | .Fis_whole => top 4
  | .Fis_decimal => top 5
  | .Fis_high => top 12
  | .Fis_low => top 13
  | .Fis_point => top 14
  | .Fis_points => top 15
  | .Fare_items => top 19
  | .Fare_members => top 20
  | .Fis_value_within => top 21
  | .Fis_value => top 22
  | .Fis_test => top 27
  | .Fis_pattern_within => top 32
  | .Fis_pattern => top 33
  | .Fplaces_of => top 34
  | .Fis_type_name => top 44
  | .Fare_tests_of => top 45
  | .Fare_triples => top 46
  | .Fis_case => top 47
  | .Fcases_in => top 48
  | .Ftests_in => top 49
  | .Fpoints_in => top 50
  | .Fis_book => top 51
  | .Fneed_book => top 52
  | .Ftests_of => top 53
  | .Fknown_of => top 54
  | .F_law_begun => top 56
  | .F_law_mixed => top 57
  | .F_law_draw => top 58
  | .F_law_pick => top 59
  | .F_law_shuffled => top 60
  | .F_law_number => top 61
  | .F_law_some_test => top 62
  | .F_law_some_pattern => top 63
  | .F_law_some_points => top 64
  | .F_law_some_members => top 65
  | .F_law_some_case => top 66
  | .F_law_some_book => top 67
  | .F_law_names => top 68
  | .F_law_wide => top 69
  | .F_law_balanced => top 70
  | .F_law_some_bent => top 71
  | .Flaw => top 72
def kn_PARTS : List (Str × Option D) := [("none", some (.int 1)), ("item", some (.int 2)), ("row", some (.int 3)), ("either", some (.int 3)), ("many", some (.int 2))]
theorem sc_is_whole : FnScope (Fn.ns .Fis_whole) (Fn.ps .Fis_whole) (defScope (top 4)) := ⟨rfl, rfl, rfl, by decide +kernel, rfl, by decide +kernel, by decide +kernel⟩
theorem sc_is_decimal : FnScope (Fn.ns .Fis_decimal) (Fn.ps .Fis_decimal) (defScope (top 5)) := ⟨rfl, rfl, rfl, by decide +kernel, rfl, by decide +kernel, by decide +kernel⟩
theorem sc_is_high : FnScope (Fn.ns .Fis_high) (Fn.ps .Fis_high) (defScope (top 12)) := ⟨rfl, rfl, rfl, by decide +kernel, rfl, by decide +kernel, by decide +kernel⟩
theorem sc_is_low : FnScope (Fn.ns .Fis_low) (Fn.ps .Fis_low) (defScope (top 13)) := ⟨rfl, rfl, rfl, by decide +kernel, rfl, by decide +kernel, by decide +kernel⟩
theorem sc_is_point : FnScope (Fn.ns .Fis_point) (Fn.ps .Fis_point) (defScope (top 14)) := ⟨rfl, rfl, rfl, by decide +kernel, rfl, by decide +kernel, by decide +kernel⟩
theorem sc_is_points : FnScope (Fn.ns .Fis_points) (Fn.ps .Fis_points) (defScope (top 15)) := ⟨rfl, rfl, rfl, by decide +kernel, rfl, by decide +kernel, by decide +kernel⟩
theorem sc_are_items : FnScope (Fn.ns .Fare_items) (Fn.ps .Fare_items) (defScope (top 19)) := ⟨rfl, rfl, rfl, by decide +kernel, rfl, by decide +kernel, by decide +kernel⟩
theorem sc_are_members : FnScope (Fn.ns .Fare_members) (Fn.ps .Fare_members) (defScope (top 20)) := ⟨rfl, rfl, rfl, by decide +kernel, rfl, by decide +kernel, by decide +kernel⟩
theorem sc_is_value_within : FnScope (Fn.ns .Fis_value_within) (Fn.ps .Fis_value_within) (defScope (top 21)) := ⟨rfl, rfl, rfl, by decide +kernel, rfl, by decide +kernel, by decide +kernel⟩
theorem sc_is_value : FnScope (Fn.ns .Fis_value) (Fn.ps .Fis_value) (defScope (top 22)) := ⟨rfl, rfl, rfl, by decide +kernel, rfl, by decide +kernel, by decide +kernel⟩
theorem sc_is_test : FnScope (Fn.ns .Fis_test) (Fn.ps .Fis_test) (defScope (top 27)) := ⟨rfl, rfl, rfl, by decide +kernel, rfl, by decide +kernel, by decide +kernel⟩
theorem sc_is_pattern_within : FnScope (Fn.ns .Fis_pattern_within) (Fn.ps .Fis_pattern_within) (defScope (top 32)) := ⟨rfl, rfl, rfl, by decide +kernel, rfl, by decide +kernel, by decide +kernel⟩
theorem sc_is_pattern : FnScope (Fn.ns .Fis_pattern) (Fn.ps .Fis_pattern) (defScope (top 33)) := ⟨rfl, rfl, rfl, by decide +kernel, rfl, by decide +kernel, by decide +kernel⟩
theorem sc_places_of : FnScope (Fn.ns .Fplaces_of) (Fn.ps .Fplaces_of) (defScope (top 34)) := ⟨rfl, rfl, rfl, by decide +kernel, rfl, by decide +kernel, by decide +kernel⟩
theorem sc_is_type_name : FnScope (Fn.ns .Fis_type_name) (Fn.ps .Fis_type_name) (defScope (top 44)) := ⟨rfl, rfl, rfl, by decide +kernel, rfl, by decide +kernel, by decide +kernel⟩
theorem sc_are_tests_of : FnScope (Fn.ns .Fare_tests_of) (Fn.ps .Fare_tests_of) (defScope (top 45)) := ⟨rfl, rfl, rfl, by decide +kernel, rfl, by decide +kernel, by decide +kernel⟩
theorem sc_are_triples : FnScope (Fn.ns .Fare_triples) (Fn.ps .Fare_triples) (defScope (top 46)) := ⟨rfl, rfl, rfl, by decide +kernel, rfl, by decide +kernel, by decide +kernel⟩
theorem sc_is_case : FnScope (Fn.ns .Fis_case) (Fn.ps .Fis_case) (defScope (top 47)) := ⟨rfl, rfl, rfl, by decide +kernel, rfl, by decide +kernel, by decide +kernel⟩
theorem sc_cases_in : FnScope (Fn.ns .Fcases_in) (Fn.ps .Fcases_in) (defScope (top 48)) := ⟨rfl, rfl, rfl, by decide +kernel, rfl, by decide +kernel, by decide +kernel⟩
theorem sc_tests_in : FnScope (Fn.ns .Ftests_in) (Fn.ps .Ftests_in) (defScope (top 49)) := ⟨rfl, rfl, rfl, by decide +kernel, rfl, by decide +kernel, by decide +kernel⟩
theorem sc_points_in : FnScope (Fn.ns .Fpoints_in) (Fn.ps .Fpoints_in) (defScope (top 50)) := ⟨rfl, rfl, rfl, by decide +kernel, rfl, by decide +kernel, by decide +kernel⟩
theorem sc_is_book : FnScope (Fn.ns .Fis_book) (Fn.ps .Fis_book) (defScope (top 51)) := ⟨rfl, rfl, rfl, by decide +kernel, rfl, by decide +kernel, by decide +kernel⟩
theorem sc_need_book : FnScope (Fn.ns .Fneed_book) (Fn.ps .Fneed_book) (defScope (top 52)) := ⟨rfl, rfl, rfl, by decide +kernel, rfl, by decide +kernel, by decide +kernel⟩
theorem sc_tests_of : FnScope (Fn.ns .Ftests_of) (Fn.ps .Ftests_of) (defScope (top 53)) := ⟨rfl, rfl, rfl, by decide +kernel, rfl, by decide +kernel, by decide +kernel⟩
theorem sc_known_of : FnScope (Fn.ns .Fknown_of) (Fn.ps .Fknown_of) (defScope (top 54)) := ⟨rfl, rfl, rfl, by decide +kernel, rfl, by decide +kernel, by decide +kernel⟩
theorem sc__law_begun : FnScope (Fn.ns .F_law_begun) (Fn.ps .F_law_begun) (defScope (top 56)) := ⟨rfl, rfl, rfl, by decide +kernel, rfl, by decide +kernel, by decide +kernel⟩
theorem sc__law_mixed : FnScope (Fn.ns .F_law_mixed) (Fn.ps .F_law_mixed) (defScope (top 57)) := ⟨rfl, rfl, rfl, by decide +kernel, rfl, by decide +kernel, by decide +kernel⟩
theorem sc__law_draw : FnScope (Fn.ns .F_law_draw) (Fn.ps .F_law_draw) (defScope (top 58)) := ⟨rfl, rfl, rfl, by decide +kernel, rfl, by decide +kernel, by decide +kernel⟩
theorem sc__law_pick : FnScope (Fn.ns .F_law_pick) (Fn.ps .F_law_pick) (defScope (top 59)) := ⟨rfl, rfl, rfl, by decide +kernel, rfl, by decide +kernel, by decide +kernel⟩
theorem sc__law_shuffled : FnScope (Fn.ns .F_law_shuffled) (Fn.ps .F_law_shuffled) (defScope (top 60)) := ⟨rfl, rfl, rfl, by decide +kernel, rfl, by decide +kernel, by decide +kernel⟩
theorem sc__law_number : FnScope (Fn.ns .F_law_number) (Fn.ps .F_law_number) (defScope (top 61)) := ⟨rfl, rfl, rfl, by decide +kernel, rfl, by decide +kernel, by decide +kernel⟩
theorem sc__law_some_test : FnScope (Fn.ns .F_law_some_test) (Fn.ps .F_law_some_test) (defScope (top 62)) := ⟨rfl, rfl, rfl, by decide +kernel, rfl, by decide +kernel, by decide +kernel⟩
theorem sc__law_some_pattern : FnScope (Fn.ns .F_law_some_pattern) (Fn.ps .F_law_some_pattern) (defScope (top 63)) := ⟨rfl, rfl, rfl, by decide +kernel, rfl, by decide +kernel, by decide +kernel⟩
theorem sc__law_some_points : FnScope (Fn.ns .F_law_some_points) (Fn.ps .F_law_some_points) (defScope (top 64)) := ⟨rfl, rfl, rfl, by decide +kernel, rfl, by decide +kernel, by decide +kernel⟩
theorem sc__law_some_members : FnScope (Fn.ns .F_law_some_members) (Fn.ps .F_law_some_members) (defScope (top 65)) := ⟨rfl, rfl, rfl, by decide +kernel, rfl, by decide +kernel, by decide +kernel⟩
theorem sc__law_some_case : FnScope (Fn.ns .F_law_some_case) (Fn.ps .F_law_some_case) (defScope (top 66)) := ⟨rfl, rfl, rfl, by decide +kernel, rfl, by decide +kernel, by decide +kernel⟩
theorem sc__law_some_book : FnScope (Fn.ns .F_law_some_book) (Fn.ps .F_law_some_book) (defScope (top 67)) := ⟨rfl, rfl, rfl, by decide +kernel, rfl, by decide +kernel, by decide +kernel⟩
theorem sc__law_names : FnScope (Fn.ns .F_law_names) (Fn.ps .F_law_names) (defScope (top 68)) := ⟨rfl, rfl, rfl, by decide +kernel, rfl, by decide +kernel, by decide +kernel⟩
theorem sc__law_wide : FnScope (Fn.ns .F_law_wide) (Fn.ps .F_law_wide) (defScope (top 69)) := ⟨rfl, rfl, rfl, by decide +kernel, rfl, by decide +kernel, by decide +kernel⟩
theorem sc__law_balanced : FnScope (Fn.ns .F_law_balanced) (Fn.ps .F_law_balanced) (defScope (top 70)) := ⟨rfl, rfl, rfl, by decide +kernel, rfl, by decide +kernel, by decide +kernel⟩
theorem sc__law_some_bent : FnScope (Fn.ns .F_law_some_bent) (Fn.ps .F_law_some_bent) (defScope (top 71)) := ⟨rfl, rfl, rfl, by decide +kernel, rfl, by decide +kernel, by decide +kernel⟩
theorem sc_law : FnScope (Fn.ns .Flaw) (Fn.ps .Flaw) (defScope (top 72)) := ⟨rfl, rfl, rfl, by decide +kernel, rfl, by decide +kernel, by decide +kernel⟩
def b_is_whole (L : Nat) (g : Fn → List D → M D) : Es → M (Es × Fl) := retS (andD (callD (on2 isi1) (consA (varD 0) (consA (cD (.ty .int)) (nilA)))) (notD (callD (on2 isi1) (consA (varD 0) (consA (cD (.ty .bool)) (nilA))))))
def b_is_decimal (L : Nat) (g : Fn → List D → M D) : Es → M (Es × Fl) := seqS (ifD (orT (notT (tstD (callD (on2 isi1) (consA (varD 0) (consA (cD (.ty .tuple)) (nilA)))))) (orT (tstD (opD neO (callD (on1 lenD) (consA (varD 0) (nilA))) (cD (.int 2)))) (orT (notT (tstD (callD (g .Fis_whole) (consA (opD ixD (varD 0) (cD (.int 0))) (nilA))))) (notT (tstD (callD (g .Fis_whole) (consA (opD ixD (varD 0) (cD (.int 1))) (nilA)))))))) (retS (cD (.bl false))) (nxS)) (retS (orD (opD neO (opD (binD .Mod) (opD ixD (varD 0) (cD (.int 0))) (cD (.int 10))) (cD (.int 0))) (opD eqO (varD 0) (tupD (consA (cD (.int 0)) (consA (cD (.int 0)) (nilA)))))))
def b_is_high (L : Nat) (g : Fn → List D → M D) : Es → M (Es × Fl) := retS (chD leO leO (cD (.int 55296)) (varD 0) (cD (.int 56319)))
def b_is_low (L : Nat) (g : Fn → List D → M D) : Es → M (Es × Fl) := retS (chD leO leO (cD (.int 56320)) (varD 0) (cD (.int 57343)))
def b_is_point (L : Nat) (g : Fn → List D → M D) : Es → M (Es × Fl) := retS (andD (callD (on2 isi1) (consA (varD 0) (consA (cD (.ty .int)) (nilA)))) (andD (notD (callD (on2 isi1) (consA (varD 0) (consA (cD (.ty .bool)) (nilA))))) (chD leO leO (cD (.int 0)) (varD 0) (cD (.int 1114111)))))
def b_is_points (L : Nat) (g : Fn → List D → M D) : Es → M (Es × Fl) := seqS (ifD (orT (notT (tstD (callD (on2 isi1) (consA (varD 0) (consA (cD (.ty .tuple)) (nilA)))))) (notT (tstD (callD (on1 allD) (consA (lcD L [3] (overS (varD 0)) (nameG 3) (yesT) (callD (g .Fis_point) (consA (varD 3) (nilA)))) (nilA)))))) (retS (cD (.bl false))) (nxS)) (retS (notD (callD (on1 anyD) (consA (lcD L [1, 2] (zipS (varD 0) (sliD (varD 0) (.at (cD (.int 1))) (.no))) (tupG 2 (consG (nameG 1) (consG (nameG 2) (nilG)))) (yesT) (andD (callD (g .Fis_high) (consA (varD 1) (nilA))) (callD (g .Fis_low) (consA (varD 2) (nilA))))) (nilA)))))
def b_are_items (L : Nat) (g : Fn → List D → M D) : Es → M (Es × Fl) := retS (andD (callD (on2 isi1) (consA (varD 0) (consA (cD (.ty .tuple)) (nilA)))) (callD (on1 allD) (consA (lcD L [2] (overS (varD 0)) (nameG 2) (yesT) (callD (g .Fis_value_within) (consA (varD 2) (consA (varD 1) (nilA))))) (nilA))))
def b_are_members (L : Nat) (g : Fn → List D → M D) : Es → M (Es × Fl) := seqS (ifD (notT (tstD (callD (on2 isi1) (consA (varD 0) (consA (cD (.ty .tuple)) (nilA)))))) (retS (cD (.bl false))) (nxS)) (seqS (asgS (emptyT) (nameG 2)) (seqS (forS L (overS (varD 0)) (nameG 3) (seqS (ifD (orT (notT (tstD (callD (on2 isi1) (consA (varD 3) (consA (cD (.ty .tuple)) (nilA)))))) (orT (tstD (opD neO (callD (on1 lenD) (consA (varD 3) (nilA))) (cD (.int 2)))) (orT (notT (tstD (callD (g .Fis_points) (consA (opD ixD (varD 3) (cD (.int 0))) (nilA))))) (tstD (opD inO (opD ixD (varD 3) (cD (.int 0))) (varD 2)))))) (retS (cD (.bl false))) (nxS)) (seqS (ifD (notT (tstD (callD (g .Fis_value_within) (consA (opD ixD (varD 3) (cD (.int 1))) (consA (varD 1) (nilA)))))) (retS (cD (.bl false))) (nxS)) (asgS (cD (.bl true)) (subG (varD 2) (opD ixD (varD 3) (cD (.int 0)))))))) (retS (cD (.bl true)))))
def b_is_value_within (L : Nat) (g : Fn → List D → M D) : Es → M (Es × Fl) := seqS (ifD (orT (notT (tstD (callD (on2 isi1) (consA (varD 0) (consA (cD (.ty .tuple)) (nilA)))))) (orT (tstD (opD eqO (callD (on1 lenD) (consA (varD 0) (nilA))) (cD (.int 0)))) (notT (tstD (callD (on2 isi1) (consA (opD ixD (varD 0) (cD (.int 0))) (consA (cD (.ty .str)) (nilA)))))))) (retS (cD (.bl false))) (nxS)) (seqS (asgS (varD 0) (starG 1 (consG (nameG 2) (consG (nameG 3) (nilG))))) (seqS (ifD (tstD (opD inO (varD 2) (cD (.rot (List.map .str ["null", "true", "false"]))))) (retS (opD eqO (varD 3) (lstD (nilA)))) (nxS)) (seqS (ifD (tstD (opD eqO (varD 2) (cD (.str "number")))) (retS (andD (opD eqO (callD (on1 lenD) (consA (varD 3) (nilA))) (cD (.int 2))) (callD (g .Fis_decimal) (consA (tupD (consA (opD ixD (varD 3) (cD (.int 0))) (consA (opD ixD (varD 3) (cD (.int 1))) (nilA)))) (nilA))))) (nxS)) (seqS (ifD (tstD (opD neO (callD (on1 lenD) (consA (varD 3) (nilA))) (cD (.int 1)))) (retS (cD (.bl false))) (nxS)) (seqS (ifD (tstD (opD eqO (varD 2) (cD (.str "string")))) (retS (callD (g .Fis_points) (consA (opD ixD (varD 3) (cD (.int 0))) (nilA)))) (nxS)) (seqS (ifD (tstD (opD eqO (varD 2) (cD (.str "array")))) (retS (andD (opD gtO (varD 1) (cD (.int 0))) (callD (g .Fare_items) (consA (opD ixD (varD 3) (cD (.int 0))) (consA (opD (binD .Sub) (varD 1) (cD (.int 1))) (nilA)))))) (nxS)) (retS (andD (opD eqO (varD 2) (cD (.str "object"))) (andD (opD gtO (varD 1) (cD (.int 0))) (callD (g .Fare_members) (consA (opD ixD (varD 3) (cD (.int 0))) (consA (opD (binD .Sub) (varD 1) (cD (.int 1))) (nilA)))))))))))))
def b_is_value (L : Nat) (g : Fn → List D → M D) : Es → M (Es × Fl) := retS (callD (g .Fis_value_within) (consA (varD 0) (consA (cD (.int 30)) (nilA))))
def b_is_test (L : Nat) (g : Fn → List D → M D) : Es → M (Es × Fl) := seqS (ifD (orT (notT (tstD (callD (on2 isi1) (consA (varD 0) (consA (cD (.ty .tuple)) (nilA)))))) (orT (tstD (opD neO (callD (on1 lenD) (consA (varD 0) (nilA))) (cD (.int 2)))) (orT (notT (tstD (callD (on2 isi1) (consA (opD ixD (varD 0) (cD (.int 0))) (consA (cD (.ty .str)) (nilA)))))) (tstD (opD ninO (opD ixD (varD 0) (cD (.int 0))) (cD (.rot (List.map .str ["<", "<=", "==", ">=", ">"])))))))) (retS (cD (.bl false))) (nxS)) (retS (andD (callD (g .Fis_value) (consA (opD ixD (varD 0) (cD (.int 1))) (nilA))) (opD inO (opD ixD (opD ixD (varD 0) (cD (.int 1))) (cD (.int 0))) (tupD (consA (cD (.str "number")) (consA (cD (.str "string")) (nilA)))))))
def b_is_pattern_within (L : Nat) (g : Fn → List D → M D) : Es → M (Es × Fl) := seqS (ifD (orT (tstD (opD eqO (varD 2) (cD (.int 0)))) (orT (notT (tstD (callD (on2 isi1) (consA (varD 0) (consA (cD (.ty .tuple)) (nilA)))))) (orT (tstD (opD eqO (varD 0) (tupD (nilA)))) (notT (tstD (callD (on2 isi1) (consA (opD ixD (varD 0) (cD (.int 0))) (consA (cD (.ty .str)) (nilA))))))))) (retS (cD (.bl false))) (nxS)) (seqS (ifD (orT (tstD (kdNin kn_PARTS (opD ixD (varD 0) (cD (.int 0))))) (tstD (opD neO (callD (on1 lenD) (consA (varD 0) (nilA))) (kdIx kn_PARTS (opD ixD (varD 0) (cD (.int 0))))))) (retS (cD (.bl false))) (nxS)) (seqS (ifD (tstD (opD eqO (opD ixD (varD 0) (cD (.int 0))) (cD (.str "item")))) (retS (andD (callD (on2 isi1) (consA (opD ixD (varD 0) (cD (.int 1))) (consA (cD (.ty .str)) (nilA)))) (opD inO (opD ixD (varD 0) (cD (.int 1))) (varD 1)))) (nxS)) (retS (callD (on1 allD) (consA (lcD L [3] (overS (sliD (varD 0) (.at (cD (.int 1))) (.no))) (nameG 3) (yesT) (callD (g .Fis_pattern_within) (consA (varD 3) (consA (varD 1) (consA (opD (binD .Sub) (varD 2) (cD (.int 1))) (nilA)))))) (nilA))))))
def b_is_pattern (L : Nat) (g : Fn → List D → M D) : Es → M (Es × Fl) := retS (andD (callD (g .Fis_pattern_within) (consA (varD 0) (consA (varD 1) (consA (cD (.int 6)) (nilA))))) (opD leO (callD (on1 lenD) (consA (callD (g .Fplaces_of) (consA (varD 0) (nilA))) (nilA))) (cD (.int 8))))
def b_places_of (L : Nat) (g : Fn → List D → M D) : Es → M (Es × Fl) := seqS (ifD (tstD (opD eqO (opD ixD (varD 0) (cD (.int 0))) (cD (.str "item")))) (retS (tupD (consA (opD ixD (varD 0) (cD (.int 1))) (nilA)))) (nxS)) (seqS (asgS (tupD (nilA)) (nameG 1)) (seqS (forS L (overS (sliD (varD 0) (.at (cD (.int 1))) (.no))) (nameG 2) (augS 1 (callD (g .Fplaces_of) (consA (varD 2) (nilA))) iaddD)) (retS (varD 1))))
def b_is_type_name (L : Nat) (g : Fn → List D → M D) : Es → M (Es × Fl) := retS (andD (callD (on2 isi1) (consA (varD 0) (consA (cD (.ty .str)) (nilA)))) (andD (chD leO leO (cD (.int 1)) (callD (on1 lenD) (consA (varD 0) (nilA))) (cD (.int 6))) (callD (on1 allD) (consA (lcD L [1] (overS (varD 0)) (nameG 1) (yesT) (opD inO (varD 1) (cD (.str "abcdefghijklmnopqrstuvwxyz")))) (nilA)))))
def b_are_tests_of (L : Nat) (g : Fn → List D → M D) : Es → M (Es × Fl) := retS (andD (callD (on2 isi1) (consA (varD 0) (consA (cD (.ty .tuple)) (nilA)))) (callD (on1 allD) (consA (lcD L [2] (overS (varD 0)) (nameG 2) (yesT) (andD (callD (g .Fis_test) (consA (varD 2) (nilA))) (opD eqO (opD ixD (opD ixD (varD 2) (cD (.int 1))) (cD (.int 0))) (varD 1)))) (nilA))))
def b_are_triples (L : Nat) (g : Fn → List D → M D) : Es → M (Es × Fl) := seqS (ifD (orT (notT (tstD (callD (on2 isi1) (consA (varD 0) (consA (cD (.ty .tuple)) (nilA)))))) (tstD (opD gtO (callD (on1 lenD) (consA (varD 0) (nilA))) (cD (.int 6))))) (retS (cD (.bl false))) (nxS)) (seqS (asgS (emptyT) (nameG 2)) (seqS (forS L (overS (varD 0)) (nameG 3) (seqS (ifD (orT (notT (tstD (callD (on2 isi1) (consA (varD 3) (consA (cD (.ty .tuple)) (nilA)))))) (orT (tstD (opD neO (callD (on1 lenD) (consA (varD 3) (nilA))) (cD (.int 3)))) (orT (notT (tstD (callD (g .Fis_points) (consA (opD ixD (varD 3) (cD (.int 0))) (nilA))))) (tstD (opD inO (opD ixD (varD 3) (cD (.int 0))) (varD 2)))))) (retS (cD (.bl false))) (nxS)) (seqS (ifD (orT (notT (tstD (callD (on2 isi1) (consA (opD ixD (varD 3) (cD (.int 1))) (consA (cD (.ty .str)) (nilA)))))) (orT (tstD (opD ninO (opD ixD (varD 3) (cD (.int 1))) (varD 1))) (orT (notT (tstD (callD (on2 isi1) (consA (opD ixD (varD 3) (cD (.int 2))) (consA (cD (.ty .str)) (nilA)))))) (tstD (opD ninO (opD ixD (varD 3) (cD (.int 2))) (cD (.rot (List.map .str ["asked", "allowed"])))))))) (retS (cD (.bl false))) (nxS)) (asgS (cD (.bl true)) (subG (varD 2) (opD ixD (varD 3) (cD (.int 0)))))))) (retS (cD (.bl true)))))
def b_is_case (L : Nat) (g : Fn → List D → M D) : Es → M (Es × Fl) := seqS (ifD (orT (notT (tstD (callD (on2 isi1) (consA (varD 0) (consA (cD (.ty .tuple)) (nilA)))))) (orT (tstD (opD eqO (varD 0) (tupD (nilA)))) (notT (tstD (callD (on2 isi1) (consA (opD ixD (varD 0) (cD (.int 0))) (consA (cD (.ty .str)) (nilA)))))))) (retS (cD (.bl false))) (nxS)) (seqS (ifD (tstD (opD inO (opD ixD (varD 0) (cD (.int 0))) (cD (.rot (List.map .str ["null", "true", "false"]))))) (retS (opD eqO (callD (on1 lenD) (consA (varD 0) (nilA))) (cD (.int 1)))) (nxS)) (seqS (ifD (tstD (opD inO (opD ixD (varD 0) (cD (.int 0))) (tupD (consA (cD (.str "number")) (consA (cD (.str "string")) (nilA)))))) (retS (andD (opD eqO (callD (on1 lenD) (consA (varD 0) (nilA))) (cD (.int 2))) (callD (g .Fare_tests_of) (consA (opD ixD (varD 0) (cD (.int 1))) (consA (opD ixD (varD 0) (cD (.int 0))) (nilA)))))) (nxS)) (seqS (ifD (tstD (opD eqO (opD ixD (varD 0) (cD (.int 0))) (cD (.str "array")))) (retS (andD (opD eqO (callD (on1 lenD) (consA (varD 0) (nilA))) (cD (.int 2))) (callD (g .Fis_pattern) (consA (opD ixD (varD 0) (cD (.int 1))) (consA (varD 1) (nilA)))))) (nxS)) (seqS (ifD (orT (tstD (opD neO (opD ixD (varD 0) (cD (.int 0))) (cD (.str "object")))) (orT (tstD (opD neO (callD (on1 lenD) (consA (varD 0) (nilA))) (cD (.int 3)))) (notT (tstD (callD (g .Fare_triples) (consA (opD ixD (varD 0) (cD (.int 1))) (consA (varD 1) (nilA)))))))) (retS (cD (.bl false))) (nxS)) (retS (orD (opD isO (opD ixD (varD 0) (cD (.int 2))) (cD .non)) (andD (callD (on2 isi1) (consA (opD ixD (varD 0) (cD (.int 2))) (consA (cD (.ty .str)) (nilA)))) (opD inO (opD ixD (varD 0) (cD (.int 2))) (varD 1)))))))))
def b_cases_in (L : Nat) (g : Fn → List D → M D) : Es → M (Es × Fl) := seqS (asgS (lstD (nilA)) (nameG 1)) (seqS (forS L (overS (callD (on1 sdicI) (consA (varD 0) (nilA)))) (nameG 2) (augS 1 (lcD L [3] (overS (opD ixD (varD 0) (varD 2))) (nameG 3) (yesT) (tupD (consA (varD 2) (consA (varD 3) (nilA))))) iaddD)) (retS (varD 1)))
def b_tests_in (L : Nat) (g : Fn → List D → M D) : Es → M (Es × Fl) := seqS (asgS (lstD (nilA)) (nameG 1)) (seqS (forS L (overS (callD (g .Fcases_in) (consA (varD 0) (nilA)))) (tupG 2 (consG (nameG 2) (consG (nameG 3) (nilG)))) (augS 1 (ifD (tstD (opD inO (opD ixD (varD 3) (cD (.int 0))) (tupD (consA (cD (.str "number")) (consA (cD (.str "string")) (nilA)))))) (callD (on1 listE) (consA (opD ixD (varD 3) (cD (.int 1))) (nilA))) (lstD (nilA))) iaddD)) (retS (callD (on1 tupleD) (consA (nsetI (varD 1)) (nilA)))))
def b_points_in (L : Nat) (g : Fn → List D → M D) : Es → M (Es × Fl) := seqS (asgS (lstD (nilA)) (nameG 1)) (seqS (forS L (overS (callD (g .Fcases_in) (consA (varD 0) (nilA)))) (tupG 2 (consG (nameG 2) (consG (nameG 3) (nilG)))) (augS 1 (ifD (tstD (opD eqO (opD ixD (varD 3) (cD (.int 0))) (cD (.str "object")))) (lcD L [4] (overS (opD ixD (varD 3) (cD (.int 1)))) (nameG 4) (yesT) (opD ixD (varD 4) (cD (.int 0)))) (lstD (nilA))) iaddD)) (retS (callD (on1 tupleD) (consA (nsetI (varD 1)) (nilA)))))
def b_is_book (L : Nat) (g : Fn → List D → M D) : Es → M (Es × Fl) := seqS (ifD (orT (notT (tstD (callD (on2 isi1) (consA (varD 0) (consA (cD (.ty .dict)) (nilA)))))) (notT (tstD (chD leO leO (cD (.int 1)) (callD (on1 lenD) (consA (varD 0) (nilA))) (cD (.int 8)))))) (retS (cD (.bl false))) (nxS)) (seqS (ifD (notT (tstD (callD (on1 allD) (consA (lockS 0 (lcD L [2] (keysS (varD 0)) (nameG 2) (yesT) (callD (g .Fis_type_name) (consA (varD 2) (nilA))))) (nilA))))) (retS (cD (.bl false))) (nxS)) (seqS (lockS 0 (forS L (valsS (varD 0)) (nameG 1) (ifD (orT (notT (tstD (callD (on2 isi1) (consA (varD 1) (consA (cD (.ty .tuple)) (nilA)))))) (orT (tstD (opD gtO (callD (on1 lenD) (consA (varD 1) (nilA))) (cD (.int 7)))) (notT (tstD (callD (on1 allD) (consA (lcD L [3] (overS (varD 1)) (nameG 3) (yesT) (callD (g .Fis_case) (consA (varD 3) (consA (varD 0) (nilA))))) (nilA))))))) (retS (cD (.bl false))) (nxS)))) (retS (andD (opD leO (callD (on1 lenD) (consA (callD (g .Ftests_in) (consA (varD 0) (nilA))) (nilA))) (cD (.int 6))) (opD leO (callD (on1 lenD) (consA (callD (g .Fpoints_in) (consA (varD 0) (nilA))) (nilA))) (cD (.int 6)))))))
def b_need_book (L : Nat) (g : Fn → List D → M D) : Es → M (Es × Fl) := ifD (notT (tstD (callD (g .Fis_book) (consA (varD 0) (nilA))))) (failD) (nxS)
def b_tests_of (L : Nat) (g : Fn → List D → M D) : Es → M (Es × Fl) := seqS (dropS (callD (g .Fneed_book) (consA (varD 0) (nilA)))) (retS (callD (g .Ftests_in) (consA (varD 0) (nilA))))
def b_known_of (L : Nat) (g : Fn → List D → M D) : Es → M (Es × Fl) := seqS (dropS (callD (g .Fneed_book) (consA (varD 0) (nilA)))) (retS (callD (g .Fpoints_in) (consA (varD 0) (nilA))))
def b__law_begun (L : Nat) (g : Fn → List D → M D) : Es → M (Es × Fl) := seqS (asgS (lcD L [2] (overS (varD 0)) (nameG 2) (tstD (opD geO (callD (on1 absD) (consA (varD 2) (nilA))) (opD (binD .Pow) (cD (.int 10)) (cD (.int 18))))) (opD (binD .Sub) (callD (on1 absD) (consA (varD 2) (nilA))) (opD (binD .Pow) (cD (.int 10)) (cD (.int 18))))) (nameG 1)) (retS (dispD ((cD (.str "great"), varD 1) :: (cD (.str "cells"), lcD L [2] (overS (varD 0)) (nameG 2) (yesT) (callD (on1 absD) (consA (varD 2) (nilA)))) :: (cD (.str "rest"), cD (.int 0)) :: (cD (.str "turn"), cD (.int 0)) :: [])))
def b__law_mixed (L : Nat) (g : Fn → List D → M D) : Es → M (Es × Fl) := seqS (parS 1 2 (consA (opD (binD .Add) (opD ixD (varD 0) (cD (.str "turn"))) (cD (.int 1))) (consA (cD (.int 0)) (nilA)))) (seqS (asgS (varD 1) (subG (varD 0) (cD (.str "turn")))) (seqS (forS L (overS (lstD (consA (cD (.int 2147483629)) (consA (cD (.int 2147483587)) (consA (cD (.int 2147483579)) (consA (cD (.int 2147483563)) (nilA))))))) (nameG 3) (seqS (asgS (opD (binD .Add) (opD (binD .Mult) (cD (.int 69621)) (varD 1)) (opD (binD .FloorDiv) (varD 3) (cD (.int 41)))) (nameG 4)) (seqS (forS L (overS (opD ixD (varD 0) (cD (.str "cells")))) (nameG 5) (asgS (opD (binD .Mod) (callD (on1 intD) (consA (opD (binD .Add) (opD (binD .Add) (opD (binD .Mult) (varD 4) (cD (.int 48271))) (varD 5)) (varD 1)) (nilA))) (varD 3)) (nameG 4))) (asgS (opD (binD .Add) (opD (binD .Mult) (varD 2) (cD (.int 2147483659))) (opD (binD .Mod) (callD (on1 intD) (consA (opD (binD .Pow) (varD 4) (cD (.int 5))) (nilA))) (varD 3))) (nameG 2))))) (retS (varD 2))))
def b__law_draw (L : Nat) (g : Fn → List D → M D) : Es → M (Es × Fl) := seqS (ifD (tstD (opD eqO (opD ixD (varD 0) (cD (.str "rest"))) (cD (.int 0)))) (asgS (ifD (tstD (opD neO (opD ixD (varD 0) (cD (.str "great"))) (lstD (nilA)))) (lmD popD (opD ixD (varD 0) (cD (.str "great"))) (consA (cD (.int 0)) (nilA))) (callD (g .F_law_mixed) (consA (varD 0) (nilA)))) (subG (varD 0) (cD (.str "rest")))) (nxS)) (seqS (asgS (opD (binD .Mod) (callD (on1 intD) (consA (opD ixD (varD 0) (cD (.str "rest"))) (nilA))) (varD 1)) (nameG 2)) (seqS (asgS (opD (binD .FloorDiv) (opD ixD (varD 0) (cD (.str "rest"))) (varD 1)) (subG (varD 0) (cD (.str "rest")))) (retS (varD 2))))
def b__law_pick (L : Nat) (g : Fn → List D → M D) : Es → M (Es × Fl) := retS (opD ixD (varD 1) (callD (g .F_law_draw) (consA (varD 0) (consA (callD (on1 lenD) (consA (varD 1) (nilA))) (nilA)))))
def b__law_shuffled (L : Nat) (g : Fn → List D → M D) : Es → M (Es × Fl) := seqS (parS 2 3 (consA (callD (on1 listE) (consA (varD 1) (nilA))) (consA (lstD (nilA)) (nilA)))) (seqS (loopS (tstD (opD neO (varD 2) (lstD (nilA)))) (dropS (lmD appendD (varD 3) (consA (lmD popD (varD 2) (consA (callD (g .F_law_draw) (consA (varD 0) (consA (callD (on1 lenD) (consA (varD 2) (nilA))) (nilA)))) (nilA))) (nilA)))) L) (retS (varD 3)))
def b__law_number (L : Nat) (g : Fn → List D → M D) : Es → M (Es × Fl) := seqS (loopS (andT (tstD (opD neO (varD 0) (cD (.int 0)))) (tstD (opD eqO (opD (binD .Mod) (varD 0) (cD (.int 10))) (cD (.int 0))))) (parS 0 1 (consA (opD (binD .FloorDiv) (varD 0) (cD (.int 10))) (consA (opD (binD .Add) (varD 1) (cD (.int 1))) (nilA)))) L) (retS (ifD (tstD (opD neO (varD 0) (cD (.int 0)))) (tupD (consA (cD (.str "number")) (consA (varD 0) (consA (varD 1) (nilA))))) (tupD (consA (cD (.str "number")) (consA (cD (.int 0)) (consA (cD (.int 0)) (nilA)))))))
def b__law_some_test (L : Nat) (g : Fn → List D → M D) : Es → M (Es × Fl) := seqS (asgS (callD (g .F_law_pick) (consA (varD 0) (consA (lstD (consA (cD (.str "<")) (consA (cD (.str "<=")) (consA (cD (.str "==")) (consA (cD (.str ">=")) (consA (cD (.str ">")) (nilA))))))) (nilA)))) (nameG 2)) (seqS (ifD (tstD (opD eqO (varD 1) (cD (.str "number")))) (retS (tupD (consA (varD 2) (consA (callD (g .F_law_number) (consA (opD (binD .Sub) (callD (g .F_law_draw) (consA (varD 0) (consA (cD (.int 14)) (nilA)))) (cD (.int 3))) (consA (callD (g .F_law_pick) (consA (varD 0) (consA (lstD (consA (cD (.int 0)) (consA (cD (.int 0)) (consA (cD (.int 0)) (consA (unD negD (cD (.int 1))) (consA (cD (.int 1)) (nilA))))))) (nilA)))) (nilA)))) (nilA))))) (nxS)) (retS (tupD (consA (varD 2) (consA (tupD (consA (cD (.str "string")) (consA (callD (g .F_law_pick) (consA (varD 0) (consA (lstD (consA (tupD (nilA)) (consA (tupD (consA (cD (.int 97)) (nilA))) (consA (tupD (consA (cD (.int 97)) (consA (cD (.int 98)) (nilA)))) (consA (tupD (consA (cD (.int 98)) (nilA))) (consA (tupD (consA (cD (.int 97)) (consA (cD (.int 0)) (nilA)))) (consA (tupD (consA (cD (.int 34)) (nilA))) (consA (tupD (consA (cD (.int 32)) (nilA))) (nilA))))))))) (nilA)))) (nilA)))) (nilA))))))
def b__law_some_pattern (L : Nat) (g : Fn → List D → M D) : Es → M (Es × Fl) := seqS (asgS (ifD (tstD (opD gtO (varD 2) (cD (.int 1)))) (callD (g .F_law_draw) (consA (varD 0) (consA (cD (.int 7)) (nilA)))) (callD (g .F_law_draw) (consA (varD 0) (consA (cD (.int 2)) (nilA))))) (nameG 3)) (seqS (ifD (tstD (opD eqO (varD 3) (cD (.int 0)))) (retS (tupD (consA (cD (.str "none")) (nilA)))) (nxS)) (seqS (ifD (tstD (opD ltO (varD 3) (cD (.int 3)))) (retS (tupD (consA (cD (.str "item")) (consA (callD (g .F_law_pick) (consA (varD 0) (consA (varD 1) (nilA)))) (nilA))))) (nxS)) (seqS (ifD (tstD (opD eqO (varD 3) (cD (.int 3)))) (retS (tupD (consA (cD (.str "many")) (consA (callD (g .F_law_some_pattern) (consA (varD 0) (consA (varD 1) (consA (opD (binD .Sub) (varD 2) (cD (.int 1))) (nilA))))) (nilA))))) (nxS)) (retS (tupD (consA (callD (g .F_law_pick) (consA (varD 0) (consA (lstD (consA (cD (.str "row")) (consA (cD (.str "row")) (consA (cD (.str "either")) (nilA))))) (nilA)))) (consA (callD (g .F_law_some_pattern) (consA (varD 0) (consA (varD 1) (consA (opD (binD .Sub) (varD 2) (cD (.int 1))) (nilA))))) (consA (callD (g .F_law_some_pattern) (consA (varD 0) (consA (varD 1) (consA (opD (binD .Sub) (varD 2) (cD (.int 1))) (nilA))))) (nilA)))))))))
def b__law_some_points (L : Nat) (g : Fn → List D → M D) : Es → M (Es × Fl) := retS (callD (g .F_law_pick) (consA (varD 0) (consA (lstD (consA (tupD (consA (cD (.int 97)) (nilA))) (consA (tupD (consA (cD (.int 98)) (nilA))) (consA (tupD (consA (cD (.int 107)) (nilA))) (consA (tupD (nilA)) (consA (tupD (consA (cD (.int 97)) (consA (cD (.int 97)) (nilA)))) (consA (tupD (consA (cD (.int 32)) (nilA))) (nilA)))))))) (nilA))))
def b__law_some_members (L : Nat) (g : Fn → List D → M D) : Es → M (Es × Fl) := seqS (asgS (lstD (nilA)) (nameG 2)) (seqS (forS L (rng1S (callD (g .F_law_draw) (consA (varD 0) (consA (cD (.int 4)) (nilA))))) (nameG 3) (seqS (asgS (callD (g .F_law_some_points) (consA (varD 0) (nilA))) (nameG 4)) (ifD (tstD (opD ninO (varD 4) (lcD L [5] (overS (varD 2)) (nameG 5) (yesT) (opD ixD (varD 5) (cD (.int 0)))))) (dropS (lmD appendD (varD 2) (consA (tupD (consA (varD 4) (consA (callD (g .F_law_pick) (consA (varD 0) (consA (varD 1) (nilA)))) (consA (callD (g .F_law_pick) (consA (varD 0) (consA (lstD (consA (cD (.str "asked")) (consA (cD (.str "asked")) (consA (cD (.str "allowed")) (nilA))))) (nilA)))) (nilA))))) (nilA)))) (nxS)))) (retS (callD (on1 tupleD) (consA (varD 2) (nilA)))))
def b__law_some_case (L : Nat) (g : Fn → List D → M D) : Es → M (Es × Fl) := seqS (asgS (callD (g .F_law_draw) (consA (varD 0) (consA (cD (.int 10)) (nilA)))) (nameG 3)) (seqS (ifD (tstD (opD ltO (varD 3) (cD (.int 2)))) (retS (tupD (consA (callD (g .F_law_pick) (consA (varD 0) (consA (lstD (consA (cD (.str "null")) (consA (cD (.str "true")) (consA (cD (.str "false")) (nilA))))) (nilA)))) (nilA)))) (nxS)) (seqS (ifD (tstD (opD ltO (varD 3) (cD (.int 5)))) (seqS (asgS (callD (g .F_law_pick) (consA (varD 0) (consA (lstD (consA (cD (.str "number")) (consA (cD (.str "string")) (nilA)))) (nilA)))) (nameG 4)) (seqS (asgS (lcD L [6] (overS (varD 2)) (nameG 6) (tstD (opD eqO (opD ixD (opD ixD (varD 6) (cD (.int 1))) (cD (.int 0))) (varD 4))) (varD 6)) (nameG 5)) (retS (tupD (consA (varD 4) (consA (ifD (tstD (opD neO (varD 5) (lstD (nilA)))) (callD (on1 tupleD) (consA (lcD L [7] (rng1S (callD (g .F_law_draw) (consA (varD 0) (consA (cD (.int 3)) (nilA))))) (nameG 7) (yesT) (callD (g .F_law_pick) (consA (varD 0) (consA (varD 5) (nilA))))) (nilA))) (tupD (nilA))) (nilA))))))) (nxS)) (seqS (ifD (tstD (opD ltO (varD 3) (cD (.int 8)))) (retS (tupD (consA (cD (.str "array")) (consA (callD (g .F_law_some_pattern) (consA (varD 0) (consA (varD 1) (consA (cD (.int 3)) (nilA))))) (nilA))))) (nxS)) (retS (tupD (consA (cD (.str "object")) (consA (callD (g .F_law_some_members) (consA (varD 0) (consA (varD 1) (nilA)))) (consA (callD (g .F_law_pick) (consA (varD 0) (consA (opD (binD .Add) (lstD (consA (cD .non) (consA (cD .non) (nilA)))) (varD 1)) (nilA)))) (nilA)))))))))
def b__law_some_book (L : Nat) (g : Fn → List D → M D) : Es → M (Es × Fl) := seqS (asgS (sliD (callD (g .F_law_shuffled) (consA (varD 0) (consA (lstD (consA (cD (.str "a")) (consA (cD (.str "b")) (consA (cD (.str "c")) (consA (cD (.str "item")) (consA (cD (.str "root")) (consA (cD (.str "zz")) (consA (cD (.str "many")) (consA (cD (.str "or")) (nilA)))))))))) (nilA)))) (.no) (.at (opD (binD .Add) (cD (.int 1)) (callD (g .F_law_draw) (consA (varD 0) (consA (varD 1) (nilA))))))) (nameG 2)) (seqS (asgS (tupD (consA (lstD (nilA)) (consA (emptyD) (nilA)))) (tupG 2 (consG (nameG 3) (consG (nameG 4) (nilG))))) (seqS (forS L (rng1S (opD (binD .Add) (cD (.int 1)) (callD (g .F_law_draw) (consA (varD 0) (consA (cD (.int 4)) (nilA)))))) (nameG 5) (seqS (asgS (callD (g .F_law_some_test) (consA (varD 0) (consA (callD (g .F_law_pick) (consA (varD 0) (consA (lstD (consA (cD (.str "number")) (consA (cD (.str "string")) (nilA)))) (nilA)))) (nilA)))) (nameG 6)) (asgS (opD (binD .Add) (varD 3) (ifD (tstD (opD ninO (varD 6) (varD 3))) (lstD (consA (varD 6) (nilA))) (lstD (nilA)))) (nameG 3)))) (seqS (forS L (overS (varD 2)) (nameG 7) (asgS (callD (on1 tupleD) (consA (lcD L [5] (rng1S (callD (g .F_law_pick) (consA (varD 0) (consA (lstD (consA (cD (.int 1)) (consA (cD (.int 2)) (consA (cD (.int 3)) (consA (cD (.int 1)) (consA (cD (.int 2)) (consA (cD (.int 0)) (nilA)))))))) (nilA))))) (nameG 5) (yesT) (callD (g .F_law_some_case) (consA (varD 0) (consA (varD 2) (consA (varD 3) (nilA)))))) (nilA))) (subG (varD 4) (varD 7)))) (retS (varD 4)))))
def b__law_names (L : Nat) (g : Fn → List D → M D) : Es → M (Es × Fl) := retS (lcD L [1] (rng1S (varD 0)) (nameG 1) (yesT) (opD (binD .Add) (cD (.str "n")) (opD ixD (cD (.str "abcdefghij")) (varD 1))))
def b__law_wide (L : Nat) (g : Fn → List D → M D) : Es → M (Es × Fl) := seqS (ifD (tstD (opD eqO (varD 0) (cD (.int 0)))) (retS (callD (on1 dictE) (consA (lcD L [6] (overS (callD (g .F_law_names) (consA (varD 1) (nilA)))) (nameG 6) (yesT) (tupD (consA (varD 6) (consA (tupD (nilA)) (nilA))))) (nilA)))) (nxS)) (seqS (ifD (tstD (opD eqO (varD 0) (cD (.int 1)))) (retS (dispD ((opD mulE (cD (.str "a")) (varD 1), tupD (consA (tupD (consA (cD (.str "null")) (nilA))) (nilA))) :: []))) (nxS)) (seqS (ifD (tstD (opD eqO (varD 0) (cD (.int 2)))) (retS (dispD ((cD (.str "a"), opD (binD .Mult) (tupD (consA (tupD (consA (cD (.str "null")) (nilA))) (nilA))) (varD 1)) :: []))) (nxS)) (seqS (ifD (tstD (opD eqO (varD 0) (cD (.int 3)))) (retS (dispD ((cD (.str "a"), tupD (consA (tupD (consA (cD (.str "object")) (consA (callD (on1 tupleD) (consA (lcD L [5] (rng1S (varD 1)) (nameG 5) (yesT) (tupD (consA (tupD (consA (varD 5) (nilA))) (consA (cD (.str "a")) (consA (cD (.str "asked")) (nilA)))))) (nilA))) (consA (cD .non) (nilA))))) (nilA))) :: []))) (nxS)) (seqS (ifD (tstD (opD eqO (varD 0) (cD (.int 4)))) (retS (dispD ((cD (.str "a"), tupD (consA (tupD (consA (cD (.str "number")) (consA (callD (on1 tupleD) (consA (lcD L [5] (rng1S (varD 1)) (nameG 5) (yesT) (tupD (consA (cD (.str "<")) (consA (callD (g .F_law_number) (consA (varD 5) (consA (cD (.int 0)) (nilA)))) (nilA))))) (nilA))) (nilA)))) (nilA))) :: []))) (nxS)) (seqS (ifD (tstD (opD eqO (varD 0) (cD (.int 5)))) (seqS (asgS (lcD L [5] (rng1S (varD 1)) (nameG 5) (yesT) (tupD (consA (tupD (consA (varD 5) (nilA))) (consA (cD (.str "a")) (consA (cD (.str "allowed")) (nilA)))))) (nameG 2)) (retS (dispD ((cD (.str "a"), tupD (consA (tupD (consA (cD (.str "object")) (consA (callD (on1 tupleD) (consA (sliD (varD 2) (.no) (.at (cD (.int 3)))) (nilA))) (consA (cD (.str "a")) (nilA))))) (consA (tupD (consA (cD (.str "object")) (consA (callD (on1 tupleD) (consA (sliD (varD 2) (.at (cD (.int 3))) (.no)) (nilA))) (consA (cD .non) (nilA))))) (nilA)))) :: [])))) (nxS)) (seqS (ifD (tstD (opD eqO (varD 0) (cD (.int 6)))) (retS (dispD ((cD (.str "a"), tupD (consA (tupD (consA (cD (.str "array")) (consA (callD (g .F_law_balanced) (consA (varD 1) (nilA))) (nilA)))) (nilA))) :: []))) (nxS)) (seqS (asgS (tupD (consA (cD (.str "item")) (consA (cD (.str "a")) (nilA)))) (nameG 3)) (seqS (forS L (rng1S (opD (binD .Sub) (varD 1) (cD (.int 1)))) (nameG 4) (asgS (tupD (consA (cD (.str "many")) (consA (varD 3) (nilA)))) (nameG 3))) (retS (dispD ((cD (.str "a"), tupD (consA (tupD (consA (cD (.str "array")) (consA (varD 3) (nilA)))) (nilA))) :: [])))))))))))
def b__law_balanced (L : Nat) (g : Fn → List D → M D) : Es → M (Es × Fl) := seqS (ifD (tstD (opD eqO (varD 0) (cD (.int 1)))) (retS (tupD (consA (cD (.str "item")) (consA (cD (.str "a")) (nilA))))) (nxS)) (retS (tupD (consA (cD (.str "row")) (consA (callD (g .F_law_balanced) (consA (opD (binD .FloorDiv) (varD 0) (cD (.int 2))) (nilA))) (consA (callD (g .F_law_balanced) (consA (opD (binD .Sub) (varD 0) (opD (binD .FloorDiv) (varD 0) (cD (.int 2)))) (nilA))) (nilA))))))
def b__law_some_bent (L : Nat) (g : Fn → List D → M D) : Es → M (Es × Fl) := seqS (asgS (callD (g .F_law_pick) (consA (varD 0) (consA (callD (on1 sdicI) (consA (varD 1) (nilA))) (nilA)))) (nameG 2)) (seqS (asgS (opD ixD (varD 1) (varD 2)) (nameG 3)) (seqS (asgS (callD (g .F_law_pick) (consA (varD 0) (consA (lstD (consA (cD .non) (consA (tupD (nilA)) (consA (tupD (consA (cD (.str "nulls")) (nilA))) (consA (tupD (consA (cD (.str "null")) (consA (cD (.int 1)) (nilA)))) (consA (tupD (consA (cD (.str "number")) (nilA))) (consA (tupD (consA (cD (.str "number")) (consA (lstD (consA (tupD (consA (cD (.str "<")) (consA (tupD (consA (cD (.str "number")) (consA (cD (.int 1)) (consA (cD (.int 0)) (nilA))))) (nilA)))) (nilA))) (nilA)))) (consA (tupD (consA (cD (.str "number")) (consA (tupD (consA (tupD (consA (cD (.str "<")) (consA (tupD (consA (cD (.str "string")) (consA (tupD (nilA)) (nilA)))) (nilA)))) (nilA))) (nilA)))) (consA (tupD (consA (cD (.str "string")) (consA (tupD (consA (tupD (consA (cD (.str "<")) (consA (tupD (consA (cD (.str "number")) (consA (cD (.int 1)) (consA (cD (.int 0)) (nilA))))) (nilA)))) (nilA))) (nilA)))) (consA (tupD (consA (cD (.str "array")) (nilA))) (consA (lstD (consA (cD (.str "null")) (nilA))) (consA (tupD (consA (cD (.str "array")) (consA (tupD (consA (cD (.str "item")) (consA (cD (.str "nobody")) (nilA)))) (nilA)))) (consA (tupD (consA (cD (.str "object")) (consA (tupD (nilA)) (consA (cD (.str "nobody")) (nilA))))) (consA (tupD (consA (cD (.str "object")) (consA (tupD (consA (tupD (consA (tupD (consA (cD (.int 97)) (nilA))) (consA (varD 2) (consA (cD (.str "must")) (nilA))))) (nilA))) (consA (cD .non) (nilA))))) (consA (tupD (consA (cD (.str "object")) (consA (tupD (consA (tupD (consA (tupD (consA (cD (.int 97)) (nilA))) (consA (varD 2) (nilA)))) (nilA))) (consA (cD .non) (nilA))))) (consA (tupD (consA (cD (.str "object")) (consA (tupD (consA (tupD (consA (tupD (consA (cD (.int 97)) (nilA))) (consA (varD 2) (consA (cD (.str "asked")) (nilA))))) (consA (tupD (consA (tupD (consA (cD (.int 97)) (nilA))) (consA (varD 2) (consA (cD (.str "allowed")) (nilA))))) (nilA)))) (consA (cD .non) (nilA))))) (consA (tupD (consA (cD (.str "object")) (consA (tupD (consA (lstD (consA (cD (.int 97)) (nilA))) (consA (varD 2) (consA (cD (.str "asked")) (nilA))))) (consA (cD .non) (nilA))))) (consA (tupD (consA (cD (.str "object")) (consA (tupD (nilA)) (consA (cD .non) (consA (cD .non) (nilA)))))) (consA (tupD (consA (cD (.str "true")) (consA (tupD (nilA)) (nilA)))) (nilA)))))))))))))))))))) (nilA)))) (nameG 4)) (seqS (asgS (lstD (consA (tupD (consA (varD 2) (consA (opD (binD .Add) (varD 3) (tupD (consA (varD 4) (nilA)))) (nilA)))) (consA (tupD (consA (varD 2) (consA (callD (on1 listE) (consA (varD 3) (nilA))) (nilA)))) (consA (tupD (consA (cD (.int 5)) (consA (tupD (nilA)) (nilA)))) (consA (tupD (consA (cD (.str "Up")) (consA (tupD (nilA)) (nilA)))) (consA (tupD (consA (cD (.str "")) (consA (tupD (nilA)) (nilA)))) (consA (tupD (consA (varD 2) (consA (cD .non) (nilA)))) (nilA)))))))) (nameG 5)) (seqS (asgS (callD (on1 dictE) (consA (varD 1) (nilA))) (nameG 6)) (seqS (asgS (callD (g .F_law_pick) (consA (varD 0) (consA (varD 5) (nilA)))) (tupG 2 (consG (nameG 7) (consG (nameG 8) (nilG))))) (seqS (asgS (varD 8) (subG (varD 6) (varD 7))) (retS (callD (g .F_law_pick) (consA (varD 0) (consA (lstD (consA (varD 6) (consA (varD 6) (consA (varD 6) (consA (callD (on1 listE) (consA (varD 1) (nilA))) (consA (cD .non) (consA (varD 2) (consA (emptyD) (nilA))))))))) (nilA)))))))))))
def b_law (L : Nat) (g : Fn → List D → M D) : Es → M (Es × Fl) := seqS (asgS (callD (g .F_law_begun) (consA (varD 0) (nilA))) (nameG 1)) (seqS (forS L (overS (lstD (consA (tupD (consA (cD (.int 0)) (consA (cD (.int 8)) (nilA)))) (consA (tupD (consA (cD (.int 1)) (consA (cD (.int 6)) (nilA)))) (consA (tupD (consA (cD (.int 2)) (consA (cD (.int 7)) (nilA)))) (consA (tupD (consA (cD (.int 3)) (consA (cD (.int 6)) (nilA)))) (consA (tupD (consA (cD (.int 4)) (consA (cD (.int 6)) (nilA)))) (consA (tupD (consA (cD (.int 5)) (consA (cD (.int 6)) (nilA)))) (consA (tupD (consA (cD (.int 6)) (consA (cD (.int 8)) (nilA)))) (consA (tupD (consA (cD (.int 7)) (consA (cD (.int 6)) (nilA)))) (nilA))))))))))) (tupG 2 (consG (nameG 2) (consG (nameG 3) (nilG)))) (seqS (ifD (orT (tstD (opD isnO (callD (g .Fis_book) (consA (callD (g .F_law_wide) (consA (varD 2) (consA (varD 3) (nilA)))) (nilA))) (cD (.bl true)))) (tstD (opD isnO (callD (g .Fis_book) (consA (callD (g .F_law_wide) (consA (varD 2) (consA (opD (binD .Add) (varD 3) (cD (.int 1))) (nilA)))) (nilA))) (cD (.bl false))))) (retS (cD (.bl false))) (nxS)) (ifD (orT (andT (tstD (opD eqO (varD 2) (cD (.int 4)))) (tstD (opD neO (callD (on1 lenD) (consA (callD (g .Ftests_of) (consA (callD (g .F_law_wide) (consA (varD 2) (consA (varD 3) (nilA)))) (nilA))) (nilA))) (cD (.int 6))))) (andT (tstD (opD eqO (varD 2) (cD (.int 5)))) (tstD (opD neO (callD (on1 lenD) (consA (callD (g .Fknown_of) (consA (callD (g .F_law_wide) (consA (varD 2) (consA (varD 3) (nilA)))) (nilA))) (nilA))) (cD (.int 6)))))) (retS (cD (.bl false))) (nxS)))) (seqS (parS 4 5 (consA (tupD (consA (cD (.str "<")) (consA (tupD (consA (cD (.str "number")) (consA (cD (.int 1)) (consA (cD (.int 0)) (nilA))))) (nilA)))) (consA (lcD L [8] (rng1S (cD (.int 6))) (nameG 8) (yesT) (tupD (consA (tupD (consA (varD 8) (nilA))) (consA (cD (.str "a")) (consA (cD (.str "asked")) (nilA)))))) (nilA)))) (seqS (ifD (tstD (opD isnO (callD (g .Fis_book) (consA (dispD ((cD (.str "a"), tupD (consA (tupD (consA (cD (.str "number")) (consA (opD (binD .Mult) (tupD (consA (varD 4) (nilA))) (cD (.int 9))) (nilA)))) (consA (tupD (consA (cD (.str "number")) (consA (tupD (consA (varD 4) (nilA))) (nilA)))) (consA (tupD (consA (cD (.str "object")) (consA (callD (on1 tupleD) (consA (varD 5) (nilA))) (consA (cD .non) (nilA))))) (consA (tupD (consA (cD (.str "object")) (consA (callD (on1 tupleD) (consA (revD (varD 5)) (nilA))) (consA (cD (.str "a")) (nilA))))) (nilA)))))) :: [])) (nilA))) (cD (.bl true)))) (retS (cD (.bl false))) (nxS)) (seqS (forS L (rng1S (cD (.int 6))) (nameG 6) (seqS (asgS (callD (g .F_law_some_book) (consA (varD 1) (consA (cD (.int 3)) (nilA)))) (nameG 7)) (ifD (orT (tstD (opD isnO (callD (g .Fis_book) (consA (varD 7) (nilA))) (cD (.bl true)))) (orT (tstD (opD isnO (callKD (g .Fis_book) sameO (consA (varD 7) (nilA))) (cD (.bl true)))) (tstD (opD isnO (callD (g .Fis_book) (consA (callD (g .F_law_some_bent) (consA (varD 1) (consA (varD 7) (nilA)))) (nilA))) (cD (.bl false)))))) (retS (cD (.bl false))) (nxS)))) (retS (opD isO (callD (g .Fis_book) (consA (callD (on1 dictE) (consA (lcD L [9] (overS (revD (callD (g .F_law_names) (consA (cD (.int 3)) (nilA))))) (nameG 9) (yesT) (tupD (consA (varD 9) (consA (tupD (nilA)) (nilA))))) (nilA))) (nilA))) (cD (.bl true))))))))
structure Txt (K : PySem.W.Frag) (w : World) (mg : Str → Option Value) (ad : Fn → Addr) (fd : Fn → FuncData) : Prop where
  fn : ∀ f, Fun K f.nm f.nm f.st (ad f) (fd f)
  mgf : ∀ f, mg f.nm = some (.ref (ad f))
  bind : ∀ f, Binds K (fd f) f.ps []
  n_abs : mg "abs" = none
  n_all : mg "all" = none
  n_any : mg "any" = none
  n_bool : mg "bool" = none
  n_dict : mg "dict" = none
  n_int : mg "int" = none
  n_isinstance : mg "isinstance" = none
  n_len : mg "len" = none
  n_list : mg "list" = none
  n_range : mg "range" = none
  n_set : mg "set" = none
  n_sorted : mg "sorted" = none
  n_str : mg "str" = none
  n_tuple : mg "tuple" = none
  n_zip : mg "zip" = none
  c_FIRST_HIGH : ∃ t, mg "FIRST_HIGH" = some (.int 55296 t)
  c_FIRST_LOW : ∃ t, mg "FIRST_LOW" = some (.int 56320 t)
  c_LAST_HIGH : ∃ t, mg "LAST_HIGH" = some (.int 56319 t)
  c_LAST_LOW : ∃ t, mg "LAST_LOW" = some (.int 57343 t)
  c_LETTERS : ∃ t, mg "LETTERS" = some (.str "abcdefghijklmnopqrstuvwxyz" t)
  c_MOST_CASES : ∃ t, mg "MOST_CASES" = some (.int 7 t)
  c_MOST_ITEMS : ∃ t, mg "MOST_ITEMS" = some (.int 8 t)
  c_MOST_KNOWN : ∃ t, mg "MOST_KNOWN" = some (.int 6 t)
  c_MOST_LETTERS : ∃ t, mg "MOST_LETTERS" = some (.int 6 t)
  c_MOST_LEVELS : ∃ t, mg "MOST_LEVELS" = some (.int 30 t)
  c_MOST_MEMBERS : ∃ t, mg "MOST_MEMBERS" = some (.int 6 t)
  c_MOST_NAMES : ∃ t, mg "MOST_NAMES" = some (.int 8 t)
  c_MOST_NESTED : ∃ t, mg "MOST_NESTED" = some (.int 6 t)
  c_MOST_POINT : ∃ t, mg "MOST_POINT" = some (.int 1114111 t)
  c_MOST_TESTS : ∃ t, mg "MOST_TESTS" = some (.int 6 t)
  c_NUMBER : ∃ t, mg "NUMBER" = some (.str "number" t)
  c_STRING : ∃ t, mg "STRING" = some (.str "string" t)
  g_DUES : ∃ a, mg "DUES" = some (.ref a) ∧ TxtTup K a ["asked", "allowed"]
  g_SIGNS : ∃ a, mg "SIGNS" = some (.ref a) ∧ TxtTup K a ["<", "<=", "==", ">=", ">"]
  g_WORDS : ∃ a, mg "WORDS" = some (.ref a) ∧ TxtTup K a ["null", "true", "false"]
  kw_is_book : KwB K (fd .Fis_book) (Fn.ps .Fis_book) ["thing"] (fun {α} => sameO (α := α))
def tab (L : Nat) : Nat → Fn → List D → M D
  | 0, _ => fun _ => fail
  | k + 1, f => match f with
    | .Fis_whole => fnD 1 1 (b_is_whole L (tab L k))
    | .Fis_decimal => fnD 1 1 (b_is_decimal L (tab L k))
    | .Fis_high => fnD 1 1 (b_is_high L (tab L k))
    | .Fis_low => fnD 1 1 (b_is_low L (tab L k))
    | .Fis_point => fnD 1 1 (b_is_point L (tab L k))
    | .Fis_points => fnD 1 4 (b_is_points L (tab L k))
    | .Fare_items => fnD 2 3 (b_are_items L (tab L k))
    | .Fare_members => fnD 2 4 (b_are_members L (tab L k))
    | .Fis_value_within => fnD 2 4 (b_is_value_within L (tab L k))
    | .Fis_value => fnD 1 1 (b_is_value L (tab L k))
    | .Fis_test => fnD 1 1 (b_is_test L (tab L k))
    | .Fis_pattern_within => fnD 3 4 (b_is_pattern_within L (tab L k))
    | .Fis_pattern => fnD 2 2 (b_is_pattern L (tab L k))
    | .Fplaces_of => fnD 1 3 (b_places_of L (tab L k))
    | .Fis_type_name => fnD 1 2 (b_is_type_name L (tab L k))
    | .Fare_tests_of => fnD 2 3 (b_are_tests_of L (tab L k))
    | .Fare_triples => fnD 2 4 (b_are_triples L (tab L k))
    | .Fis_case => fnD 2 2 (b_is_case L (tab L k))
    | .Fcases_in => fnD 1 4 (b_cases_in L (tab L k))
    | .Ftests_in => fnD 1 4 (b_tests_in L (tab L k))
    | .Fpoints_in => fnD 1 5 (b_points_in L (tab L k))
    | .Fis_book => fnD 1 4 (b_is_book L (tab L k))
    | .Fneed_book => fnD 1 1 (b_need_book L (tab L k))
    | .Ftests_of => fnD 1 1 (b_tests_of L (tab L k))
    | .Fknown_of => fnD 1 1 (b_known_of L (tab L k))
    | .F_law_begun => fnD 1 3 (b__law_begun L (tab L k))
    | .F_law_mixed => fnD 1 6 (b__law_mixed L (tab L k))
    | .F_law_draw => fnD 2 3 (b__law_draw L (tab L k))
    | .F_law_pick => fnD 2 2 (b__law_pick L (tab L k))
    | .F_law_shuffled => fnD 2 4 (b__law_shuffled L (tab L k))
    | .F_law_number => fnD 2 2 (b__law_number L (tab L k))
    | .F_law_some_test => fnD 2 3 (b__law_some_test L (tab L k))
    | .F_law_some_pattern => fnD 3 4 (b__law_some_pattern L (tab L k))
    | .F_law_some_points => fnD 1 1 (b__law_some_points L (tab L k))
    | .F_law_some_members => fnD 2 6 (b__law_some_members L (tab L k))
    | .F_law_some_case => fnD 3 8 (b__law_some_case L (tab L k))
    | .F_law_some_book => fnD 2 8 (b__law_some_book L (tab L k))
    | .F_law_names => fnD 1 2 (b__law_names L (tab L k))
    | .F_law_wide => fnD 2 7 (b__law_wide L (tab L k))
    | .F_law_balanced => fnD 1 1 (b__law_balanced L (tab L k))
    | .F_law_some_bent => fnD 2 9 (b__law_some_bent L (tab L k))
    | .Flaw => fnD 1 10 (b_law L (tab L k))
end K37


namespace K37
open PySem PySem.Spec L2 Mx
structure Kds (K : PySem.W.Frag) (w : World) (mg : Str → Option Value) (d_PARTS : Addr) : Prop where
  kd_PARTS : ∃ es n, KDict K w d_PARTS es n
  kn_PARTS : Kd K d_PARTS kn_PARTS
  mg_PARTS : mg "PARTS" = some (.ref d_PARTS)
  triv : True
section
variable {T : List (Addr × Str)} {P : Program} {w : World} {K : PySem.W.Frag} {mg : Str → Option Value} {base : Heap} {ad : Fn → Addr} {fd : Fn → FuncData} {k L : Nat} {g : Fn → List D → M D} {d_PARTS : Addr}
theorem ok_is_whole (U : Txt K w mg ad fd) (U2 : Kds K w mg d_PARTS) (F : ∀ f, FnM T P w K mg base (k + 2) (ad f) (fd f) f.ps (g f)) (cdv : Value) (A : Around) (out : List Env) (s : Shared) (H : Hp) (rm : Rm (k + 2) (A.deeper (PyProof.Rows.envOfC "is_whole" (defScope (top 4)) s.heap.objs.size (ad .Fis_whole) cdv))) :
    PSs (cxOf CX0 P w K mg base (Fn.ns .Fis_whole) "is_whole" (defScope (top 4)) (ad .Fis_whole) cdv A out s H E0).nox (defBody (top 4)) (sM T K (b_is_whole L g)) :=
  sone (sret (mand (mcallB (call_isiM) rfl U.n_isinstance bt_isinstance (acons (mvar 0) (acons (mty .int rfl U.n_int) (anil)))) (mone (mnot (mcallB (call_isiM) rfl U.n_isinstance bt_isinstance (acons (mvar 0) (acons (mty .bool rfl U.n_bool) (anil))))))))
theorem ok_is_decimal (U : Txt K w mg ad fd) (U2 : Kds K w mg d_PARTS) (F : ∀ f, FnM T P w K mg base (k + 2) (ad f) (fd f) f.ps (g f)) (cdv : Value) (A : Around) (out : List Env) (s : Shared) (H : Hp) (rm : Rm (k + 2) (A.deeper (PyProof.Rows.envOfC "is_decimal" (defScope (top 5)) s.heap.objs.size (ad .Fis_decimal) cdv))) :
    PSs (cxOf CX0 P w K mg base (Fn.ns .Fis_decimal) "is_decimal" (defScope (top 5)) (ad .Fis_decimal) cdv A out s H E0).nox (defBody (top 5)) (sM T K (b_is_decimal L g)) :=
  scons (sif (PW.pt (mtor (mtnot (mtst (mcallB (call_isiM) rfl U.n_isinstance bt_isinstance (acons (mvar 0) (acons (mty .tuple rfl U.n_tuple) (anil)))))) (mtor (mtcmp (o_ne rm.u64) (mcallB (call_lenM) rfl U.n_len bt_len (acons (mvar 0) (anil))) (mint)) (mtor (mtnot (mtst (fcall (F .Fis_whole) rm rfl (U.mgf .Fis_whole) (U.fn .Fis_whole).kp (U.bind .Fis_whole) (acons (mix rm.u1 (mvar 0) (mint)) (anil))))) (mtor1 (mtnot (mtst (fcall (F .Fis_whole) rm rfl (U.mgf .Fis_whole) (U.fn .Fis_whole).kp (U.bind .Fis_whole) (acons (mix rm.u1 (mvar 0) (mint)) (anil)))))))))) (sone (sret (mbl))) (snil)) (sone (sret (mor (mcmp (o_ne rm.u64) (mbin .Mod (mix rm.u1 (mvar 0) (mint)) (mint)) (mint)) (mone (mcmp (o_eq rm.u64) (mvar 0) (mtup (acons (mint) (acons (mint) (anil)))))))))
theorem ok_is_high (U : Txt K w mg ad fd) (U2 : Kds K w mg d_PARTS) (F : ∀ f, FnM T P w K mg base (k + 2) (ad f) (fd f) f.ps (g f)) (cdv : Value) (A : Around) (out : List Env) (s : Shared) (H : Hp) (rm : Rm (k + 2) (A.deeper (PyProof.Rows.envOfC "is_high" (defScope (top 12)) s.heap.objs.size (ad .Fis_high) cdv))) :
    PSs (cxOf CX0 P w K mg base (Fn.ns .Fis_high) "is_high" (defScope (top 12)) (ad .Fis_high) cdv A out s H E0).nox (defBody (top 12)) (sM T K (b_is_high L g)) :=
  sone (sret (mchain (o_le) (o_le) (mgi rfl U.c_FIRST_HIGH) (mvar 0) (mgi rfl U.c_LAST_HIGH)))
theorem ok_is_low (U : Txt K w mg ad fd) (U2 : Kds K w mg d_PARTS) (F : ∀ f, FnM T P w K mg base (k + 2) (ad f) (fd f) f.ps (g f)) (cdv : Value) (A : Around) (out : List Env) (s : Shared) (H : Hp) (rm : Rm (k + 2) (A.deeper (PyProof.Rows.envOfC "is_low" (defScope (top 13)) s.heap.objs.size (ad .Fis_low) cdv))) :
    PSs (cxOf CX0 P w K mg base (Fn.ns .Fis_low) "is_low" (defScope (top 13)) (ad .Fis_low) cdv A out s H E0).nox (defBody (top 13)) (sM T K (b_is_low L g)) :=
  sone (sret (mchain (o_le) (o_le) (mgi rfl U.c_FIRST_LOW) (mvar 0) (mgi rfl U.c_LAST_LOW)))
theorem ok_is_point (U : Txt K w mg ad fd) (U2 : Kds K w mg d_PARTS) (F : ∀ f, FnM T P w K mg base (k + 2) (ad f) (fd f) f.ps (g f)) (cdv : Value) (A : Around) (out : List Env) (s : Shared) (H : Hp) (rm : Rm (k + 2) (A.deeper (PyProof.Rows.envOfC "is_point" (defScope (top 14)) s.heap.objs.size (ad .Fis_point) cdv))) :
    PSs (cxOf CX0 P w K mg base (Fn.ns .Fis_point) "is_point" (defScope (top 14)) (ad .Fis_point) cdv A out s H E0).nox (defBody (top 14)) (sM T K (b_is_point L g)) :=
  sone (sret (mand (mcallB (call_isiM) rfl U.n_isinstance bt_isinstance (acons (mvar 0) (acons (mty .int rfl U.n_int) (anil)))) (mand (mnot (mcallB (call_isiM) rfl U.n_isinstance bt_isinstance (acons (mvar 0) (acons (mty .bool rfl U.n_bool) (anil))))) (mone (mchain (o_le) (o_le) (mint) (mvar 0) (mgi rfl U.c_MOST_POINT))))))
theorem ok_is_points (U : Txt K w mg ad fd) (U2 : Kds K w mg d_PARTS) (F : ∀ f, FnM T P w K mg base (k + 2) (ad f) (fd f) f.ps (g f)) (cdv : Value) (A : Around) (out : List Env) (s : Shared) (H : Hp) (rm : Rm (k + 2) (A.deeper (PyProof.Rows.envOfC "is_points" (defScope (top 15)) s.heap.objs.size (ad .Fis_points) cdv))) :
    PSs (cxOf CX0 P w K mg base (Fn.ns .Fis_points) "is_points" (defScope (top 15)) (ad .Fis_points) cdv A out s H E0).nox (defBody (top 15)) (sM T K (b_is_points L g)) :=
  scons (sif (PW.pt (mtor (mtnot (mtst (mcallB (call_isiM) rfl U.n_isinstance bt_isinstance (acons (mvar 0) (acons (mty .tuple rfl U.n_tuple) (anil)))))) (mtor1 (mtnot (mtst (mcallB (call_allM rfl) rfl U.n_all bt_all (acons (mlc L [("item", 3)] rfl sc_is_points.nd (iover (mvar 0)) rfl (fun _ _ _ _ _ => wname 3 sc_is_points.nd) (fun _ _ _ _ _ => ptsnil) (fun _ _ _ _ _ => fcall (F .Fis_point) rm rfl (U.mgf .Fis_point) (U.fn .Fis_point).kp (U.bind .Fis_point) (acons (mvar 3) (anil)))) (anil)))))))) (sone (sret (mbl))) (snil)) (sone (sret (mnot (mcallB (call_anyM rfl) rfl U.n_any bt_any (acons (mlc L [("one", 1), ("other", 2)] rfl sc_is_points.nd (izip rfl U.n_zip (mvar 0) (mslice (mvar 0) (posome (mint)) (ponone))) rfl (fun _ _ _ _ _ => wtup rfl (wcons (wname 1 sc_is_points.nd) (wcons (wname 2 sc_is_points.nd) (wnil)))) (fun _ _ _ _ _ => ptsnil) (fun _ _ _ _ _ => mand (fcall (F .Fis_high) rm rfl (U.mgf .Fis_high) (U.fn .Fis_high).kp (U.bind .Fis_high) (acons (mvar 1) (anil))) (mone (fcall (F .Fis_low) rm rfl (U.mgf .Fis_low) (U.fn .Fis_low).kp (U.bind .Fis_low) (acons (mvar 2) (anil)))))) (anil))))))
theorem ok_are_items (U : Txt K w mg ad fd) (U2 : Kds K w mg d_PARTS) (F : ∀ f, FnM T P w K mg base (k + 2) (ad f) (fd f) f.ps (g f)) (cdv : Value) (A : Around) (out : List Env) (s : Shared) (H : Hp) (rm : Rm (k + 2) (A.deeper (PyProof.Rows.envOfC "are_items" (defScope (top 19)) s.heap.objs.size (ad .Fare_items) cdv))) :
    PSs (cxOf CX0 P w K mg base (Fn.ns .Fare_items) "are_items" (defScope (top 19)) (ad .Fare_items) cdv A out s H E0).nox (defBody (top 19)) (sM T K (b_are_items L g)) :=
  sone (sret (mand (mcallB (call_isiM) rfl U.n_isinstance bt_isinstance (acons (mvar 0) (acons (mty .tuple rfl U.n_tuple) (anil)))) (mone (mcallB (call_allM rfl) rfl U.n_all bt_all (acons (mlc L [("one", 2)] rfl sc_are_items.nd (iover (mvar 0)) rfl (fun _ _ _ _ _ => wname 2 sc_are_items.nd) (fun _ _ _ _ _ => ptsnil) (fun _ _ _ _ _ => fcall (F .Fis_value_within) rm rfl (U.mgf .Fis_value_within) (U.fn .Fis_value_within).kp (U.bind .Fis_value_within) (acons (mvar 2) (acons (mvar 1) (anil))))) (anil))))))
theorem ok_are_members (U : Txt K w mg ad fd) (U2 : Kds K w mg d_PARTS) (F : ∀ f, FnM T P w K mg base (k + 2) (ad f) (fd f) f.ps (g f)) (cdv : Value) (A : Around) (out : List Env) (s : Shared) (H : Hp) (rm : Rm (k + 2) (A.deeper (PyProof.Rows.envOfC "are_members" (defScope (top 20)) s.heap.objs.size (ad .Fare_members) cdv))) :
    PSs (cxOf CX0 P w K mg base (Fn.ns .Fare_members) "are_members" (defScope (top 20)) (ad .Fare_members) cdv A out s H E0).nox (defBody (top 20)) (sM T K (b_are_members L g)) :=
  scons (sif (mtnot (mtst (mcallB (call_isiM) rfl U.n_isinstance bt_isinstance (acons (mvar 0) (acons (mty .tuple rfl U.n_tuple) (anil)))))) (sone (sret (mbl))) (snil)) (scons (sset 2 sc_are_members.nd (mdictT)) (scons (sfor L PassesOwn.never rfl (iover (mvar 0)) (gname 3 sc_are_members.nd) (scons (sif (PW.pt (mtor (mtnot (mtst (mcallB (call_isiM) rfl U.n_isinstance bt_isinstance (acons (mvar 3) (acons (mty .tuple rfl U.n_tuple) (anil)))))) (mtor (mtcmp (o_ne rm.u64) (mcallB (call_lenM) rfl U.n_len bt_len (acons (mvar 3) (anil))) (mint)) (mtor (mtnot (mtst (fcall (F .Fis_points) rm rfl (U.mgf .Fis_points) (U.fn .Fis_points).kp (U.bind .Fis_points) (acons (mix rm.u1 (mvar 3) (mint)) (anil))))) (mtor1 (mtcmp (o_in rm.u65) (mix rm.u1 (mvar 3) (mint)) (mvar 2))))))) (sone (sret (mbl))) (snil)) (scons (sif (mtnot (mtst (fcall (F .Fis_value_within) rm rfl (U.mgf .Fis_value_within) (U.fn .Fis_value_within).kp (U.bind .Fis_value_within) (acons (mix rm.u1 (mvar 3) (mint)) (acons (mvar 1) (anil)))))) (sone (sret (mbl))) (snil)) (sone (sasg (mbl) (gsub rm.u1 (mvar 2) (mix rm.u1 (mvar 3) (mint)))))))) (sone (sret (mbl)))))
theorem ok_is_value_within (U : Txt K w mg ad fd) (U2 : Kds K w mg d_PARTS) (F : ∀ f, FnM T P w K mg base (k + 2) (ad f) (fd f) f.ps (g f)) (cdv : Value) (A : Around) (out : List Env) (s : Shared) (H : Hp) (rm : Rm (k + 2) (A.deeper (PyProof.Rows.envOfC "is_value_within" (defScope (top 21)) s.heap.objs.size (ad .Fis_value_within) cdv))) :
    PSs (cxOf CX0 P w K mg base (Fn.ns .Fis_value_within) "is_value_within" (defScope (top 21)) (ad .Fis_value_within) cdv A out s H E0).nox (defBody (top 21)) (sM T K (b_is_value_within L g)) :=
  scons (sif (PW.pt (mtor (mtnot (mtst (mcallB (call_isiM) rfl U.n_isinstance bt_isinstance (acons (mvar 0) (acons (mty .tuple rfl U.n_tuple) (anil)))))) (mtor (mtcmp (o_eq rm.u64) (mcallB (call_lenM) rfl U.n_len bt_len (acons (mvar 0) (anil))) (mint)) (mtor1 (mtnot (mtst (mcallB (call_isiM) rfl U.n_isinstance bt_isinstance (acons (mix rm.u1 (mvar 0) (mint)) (acons (mty .str rfl U.n_str) (anil)))))))))) (sone (sret (mbl))) (snil)) (scons (sasg (mvar 0) (gstar rfl (gcons (gname 2 sc_is_value_within.nd) (gcons_star (gname 3 sc_is_value_within.nd) (gnil))))) (scons (sif (mtcmp (o_in rm.u65) (mvar 2) (mgtx rfl U.g_WORDS)) (sone (sret (mcmp (o_eq rm.u64) (mvar 3) (mlst (anil))))) (snil)) (scons (sif (mtcmp (o_eq rm.u64) (mvar 2) (mstr)) (sone (sret (mand (mcmp (o_eq rm.u64) (mcallB (call_lenM) rfl U.n_len bt_len (acons (mvar 3) (anil))) (mint)) (mone (fcall (F .Fis_decimal) rm rfl (U.mgf .Fis_decimal) (U.fn .Fis_decimal).kp (U.bind .Fis_decimal) (acons (mtup (acons (mix rm.u1 (mvar 3) (mint)) (acons (mix rm.u1 (mvar 3) (mint)) (anil)))) (anil))))))) (snil)) (scons (sif (mtcmp (o_ne rm.u64) (mcallB (call_lenM) rfl U.n_len bt_len (acons (mvar 3) (anil))) (mint)) (sone (sret (mbl))) (snil)) (scons (sif (mtcmp (o_eq rm.u64) (mvar 2) (mstr)) (sone (sret (fcall (F .Fis_points) rm rfl (U.mgf .Fis_points) (U.fn .Fis_points).kp (U.bind .Fis_points) (acons (mix rm.u1 (mvar 3) (mint)) (anil))))) (snil)) (scons (sif (mtcmp (o_eq rm.u64) (mvar 2) (mstr)) (sone (sret (mand (mcmp (o_gt) (mvar 1) (mint)) (mone (fcall (F .Fare_items) rm rfl (U.mgf .Fare_items) (U.fn .Fare_items).kp (U.bind .Fare_items) (acons (mix rm.u1 (mvar 3) (mint)) (acons (mbin .Sub (mvar 1) (mint)) (anil)))))))) (snil)) (sone (sret (mand (mcmp (o_eq rm.u64) (mvar 2) (mstr)) (mand (mcmp (o_gt) (mvar 1) (mint)) (mone (fcall (F .Fare_members) rm rfl (U.mgf .Fare_members) (U.fn .Fare_members).kp (U.bind .Fare_members) (acons (mix rm.u1 (mvar 3) (mint)) (acons (mbin .Sub (mvar 1) (mint)) (anil)))))))))))))))
theorem ok_is_value (U : Txt K w mg ad fd) (U2 : Kds K w mg d_PARTS) (F : ∀ f, FnM T P w K mg base (k + 2) (ad f) (fd f) f.ps (g f)) (cdv : Value) (A : Around) (out : List Env) (s : Shared) (H : Hp) (rm : Rm (k + 2) (A.deeper (PyProof.Rows.envOfC "is_value" (defScope (top 22)) s.heap.objs.size (ad .Fis_value) cdv))) :
    PSs (cxOf CX0 P w K mg base (Fn.ns .Fis_value) "is_value" (defScope (top 22)) (ad .Fis_value) cdv A out s H E0).nox (defBody (top 22)) (sM T K (b_is_value L g)) :=
  sone (sret (fcall (F .Fis_value_within) rm rfl (U.mgf .Fis_value_within) (U.fn .Fis_value_within).kp (U.bind .Fis_value_within) (acons (mvar 0) (acons (mgi rfl U.c_MOST_LEVELS) (anil)))))
theorem ok_is_test (U : Txt K w mg ad fd) (U2 : Kds K w mg d_PARTS) (F : ∀ f, FnM T P w K mg base (k + 2) (ad f) (fd f) f.ps (g f)) (cdv : Value) (A : Around) (out : List Env) (s : Shared) (H : Hp) (rm : Rm (k + 2) (A.deeper (PyProof.Rows.envOfC "is_test" (defScope (top 27)) s.heap.objs.size (ad .Fis_test) cdv))) :
    PSs (cxOf CX0 P w K mg base (Fn.ns .Fis_test) "is_test" (defScope (top 27)) (ad .Fis_test) cdv A out s H E0).nox (defBody (top 27)) (sM T K (b_is_test L g)) :=
  scons (sif (PW.pt (mtor (mtnot (mtst (mcallB (call_isiM) rfl U.n_isinstance bt_isinstance (acons (mvar 0) (acons (mty .tuple rfl U.n_tuple) (anil)))))) (mtor (mtcmp (o_ne rm.u64) (mcallB (call_lenM) rfl U.n_len bt_len (acons (mvar 0) (anil))) (mint)) (mtor (mtnot (mtst (mcallB (call_isiM) rfl U.n_isinstance bt_isinstance (acons (mix rm.u1 (mvar 0) (mint)) (acons (mty .str rfl U.n_str) (anil)))))) (mtor1 (mtcmp (o_nin rm.u65) (mix rm.u1 (mvar 0) (mint)) (mgtx rfl U.g_SIGNS))))))) (sone (sret (mbl))) (snil)) (sone (sret (mand (fcall (F .Fis_value) rm rfl (U.mgf .Fis_value) (U.fn .Fis_value).kp (U.bind .Fis_value) (acons (mix rm.u1 (mvar 0) (mint)) (anil))) (mone (mcmp (o_in rm.u65) (mix rm.u1 (mix rm.u1 (mvar 0) (mint)) (mint)) (mtup (acons (mgs rfl U.c_NUMBER) (acons (mgs rfl U.c_STRING) (anil)))))))))
theorem ok_is_pattern_within (U : Txt K w mg ad fd) (U2 : Kds K w mg d_PARTS) (F : ∀ f, FnM T P w K mg base (k + 2) (ad f) (fd f) f.ps (g f)) (cdv : Value) (A : Around) (out : List Env) (s : Shared) (H : Hp) (rm : Rm (k + 2) (A.deeper (PyProof.Rows.envOfC "is_pattern_within" (defScope (top 32)) s.heap.objs.size (ad .Fis_pattern_within) cdv))) :
    PSs (cxOf CX0 P w K mg base (Fn.ns .Fis_pattern_within) "is_pattern_within" (defScope (top 32)) (ad .Fis_pattern_within) cdv A out s H E0).nox (defBody (top 32)) (sM T K (b_is_pattern_within L g)) :=
  let ⟨_, _, D0_PARTS⟩ := U2.kd_PARTS
  scons (sif (PW.pt (mtor (mtcmp (o_eq rm.u64) (mvar 2) (mint)) (mtor (mtnot (mtst (mcallB (call_isiM) rfl U.n_isinstance bt_isinstance (acons (mvar 0) (acons (mty .tuple rfl U.n_tuple) (anil)))))) (mtor (mtcmp (o_eq rm.u64) (mvar 0) (mtup (anil))) (mtor1 (mtnot (mtst (mcallB (call_isiM) rfl U.n_isinstance bt_isinstance (acons (mix rm.u1 (mvar 0) (mint)) (acons (mty .str rfl U.n_str) (anil))))))))))) (sone (sret (mbl))) (snil)) (scons (sif (PW.pt (mtor (mtkdNin D0_PARTS U2.kn_PARTS rfl U2.mg_PARTS (mix rm.u1 (mvar 0) (mint))) (mtor1 (mtcmp (o_ne rm.u64) (mcallB (call_lenM) rfl U.n_len bt_len (acons (mvar 0) (anil))) (mkdIx D0_PARTS U2.kn_PARTS rfl U2.mg_PARTS (mix rm.u1 (mvar 0) (mint))))))) (sone (sret (mbl))) (snil)) (scons (sif (mtcmp (o_eq rm.u64) (mix rm.u1 (mvar 0) (mint)) (mstr)) (sone (sret (mand (mcallB (call_isiM) rfl U.n_isinstance bt_isinstance (acons (mix rm.u1 (mvar 0) (mint)) (acons (mty .str rfl U.n_str) (anil)))) (mone (mcmp (o_in rm.u65) (mix rm.u1 (mvar 0) (mint)) (mvar 1)))))) (snil)) (sone (sret (mcallB (call_allM rfl) rfl U.n_all bt_all (acons (mlc L [("one", 3)] rfl sc_is_pattern_within.nd (iover (mslice (mvar 0) (posome (mint)) (ponone))) rfl (fun _ _ _ _ _ => wname 3 sc_is_pattern_within.nd) (fun _ _ _ _ _ => ptsnil) (fun _ _ _ _ _ => fcall (F .Fis_pattern_within) rm rfl (U.mgf .Fis_pattern_within) (U.fn .Fis_pattern_within).kp (U.bind .Fis_pattern_within) (acons (mvar 3) (acons (mvar 1) (acons (mbin .Sub (mvar 2) (mint)) (anil)))))) (anil)))))))
theorem ok_is_pattern (U : Txt K w mg ad fd) (U2 : Kds K w mg d_PARTS) (F : ∀ f, FnM T P w K mg base (k + 2) (ad f) (fd f) f.ps (g f)) (cdv : Value) (A : Around) (out : List Env) (s : Shared) (H : Hp) (rm : Rm (k + 2) (A.deeper (PyProof.Rows.envOfC "is_pattern" (defScope (top 33)) s.heap.objs.size (ad .Fis_pattern) cdv))) :
    PSs (cxOf CX0 P w K mg base (Fn.ns .Fis_pattern) "is_pattern" (defScope (top 33)) (ad .Fis_pattern) cdv A out s H E0).nox (defBody (top 33)) (sM T K (b_is_pattern L g)) :=
  sone (sret (mand (fcall (F .Fis_pattern_within) rm rfl (U.mgf .Fis_pattern_within) (U.fn .Fis_pattern_within).kp (U.bind .Fis_pattern_within) (acons (mvar 0) (acons (mvar 1) (acons (mgi rfl U.c_MOST_NESTED) (anil))))) (mone (mcmp (o_le) (mcallB (call_lenM) rfl U.n_len bt_len (acons (fcall (F .Fplaces_of) rm rfl (U.mgf .Fplaces_of) (U.fn .Fplaces_of).kp (U.bind .Fplaces_of) (acons (mvar 0) (anil))) (anil))) (mgi rfl U.c_MOST_ITEMS)))))
theorem ok_places_of (U : Txt K w mg ad fd) (U2 : Kds K w mg d_PARTS) (F : ∀ f, FnM T P w K mg base (k + 2) (ad f) (fd f) f.ps (g f)) (cdv : Value) (A : Around) (out : List Env) (s : Shared) (H : Hp) (rm : Rm (k + 2) (A.deeper (PyProof.Rows.envOfC "places_of" (defScope (top 34)) s.heap.objs.size (ad .Fplaces_of) cdv))) :
    PSs (cxOf CX0 P w K mg base (Fn.ns .Fplaces_of) "places_of" (defScope (top 34)) (ad .Fplaces_of) cdv A out s H E0).nox (defBody (top 34)) (sM T K (b_places_of L g)) :=
  scons (sif (mtcmp (o_eq rm.u64) (mix rm.u1 (mvar 0) (mint)) (mstr)) (sone (sret (mtup (acons (mix rm.u1 (mvar 0) (mint)) (anil))))) (snil)) (scons (sset 1 sc_places_of.nd (mtup (anil))) (scons (sfor L PassesOwn.never rfl (iover (mslice (mvar 0) (posome (mint)) (ponone))) (gname 2 sc_places_of.nd) (sone (saug 1 iop_addM sc_places_of.nd (fcall (F .Fplaces_of) rm rfl (U.mgf .Fplaces_of) (U.fn .Fplaces_of).kp (U.bind .Fplaces_of) (acons (mvar 2) (anil)))))) (sone (sret (mvar 1)))))
theorem ok_is_type_name (U : Txt K w mg ad fd) (U2 : Kds K w mg d_PARTS) (F : ∀ f, FnM T P w K mg base (k + 2) (ad f) (fd f) f.ps (g f)) (cdv : Value) (A : Around) (out : List Env) (s : Shared) (H : Hp) (rm : Rm (k + 2) (A.deeper (PyProof.Rows.envOfC "is_type_name" (defScope (top 44)) s.heap.objs.size (ad .Fis_type_name) cdv))) :
    PSs (cxOf CX0 P w K mg base (Fn.ns .Fis_type_name) "is_type_name" (defScope (top 44)) (ad .Fis_type_name) cdv A out s H E0).nox (defBody (top 44)) (sM T K (b_is_type_name L g)) :=
  sone (sret (mand (mcallB (call_isiM) rfl U.n_isinstance bt_isinstance (acons (mvar 0) (acons (mty .str rfl U.n_str) (anil)))) (mand (mchain (o_le) (o_le) (mint) (mcallB (call_lenM) rfl U.n_len bt_len (acons (mvar 0) (anil))) (mgi rfl U.c_MOST_LETTERS)) (mone (mcallB (call_allM rfl) rfl U.n_all bt_all (acons (mlc L [("sign", 1)] rfl sc_is_type_name.nd (iover (mvar 0)) rfl (fun _ _ _ _ _ => wname 1 sc_is_type_name.nd) (fun _ _ _ _ _ => ptsnil) (fun _ _ _ _ _ => mcmp (o_in rm.u65) (mvar 1) (mgs rfl U.c_LETTERS))) (anil)))))))
theorem ok_are_tests_of (U : Txt K w mg ad fd) (U2 : Kds K w mg d_PARTS) (F : ∀ f, FnM T P w K mg base (k + 2) (ad f) (fd f) f.ps (g f)) (cdv : Value) (A : Around) (out : List Env) (s : Shared) (H : Hp) (rm : Rm (k + 2) (A.deeper (PyProof.Rows.envOfC "are_tests_of" (defScope (top 45)) s.heap.objs.size (ad .Fare_tests_of) cdv))) :
    PSs (cxOf CX0 P w K mg base (Fn.ns .Fare_tests_of) "are_tests_of" (defScope (top 45)) (ad .Fare_tests_of) cdv A out s H E0).nox (defBody (top 45)) (sM T K (b_are_tests_of L g)) :=
  sone (sret (mand (mcallB (call_isiM) rfl U.n_isinstance bt_isinstance (acons (mvar 0) (acons (mty .tuple rfl U.n_tuple) (anil)))) (mone (mcallB (call_allM rfl) rfl U.n_all bt_all (acons (mlc L [("one", 2)] rfl sc_are_tests_of.nd (iover (mvar 0)) rfl (fun _ _ _ _ _ => wname 2 sc_are_tests_of.nd) (fun _ _ _ _ _ => ptsnil) (fun _ _ _ _ _ => mand (fcall (F .Fis_test) rm rfl (U.mgf .Fis_test) (U.fn .Fis_test).kp (U.bind .Fis_test) (acons (mvar 2) (anil))) (mone (mcmp (o_eq rm.u64) (mix rm.u1 (mix rm.u1 (mvar 2) (mint)) (mint)) (mvar 1))))) (anil))))))
theorem ok_are_triples (U : Txt K w mg ad fd) (U2 : Kds K w mg d_PARTS) (F : ∀ f, FnM T P w K mg base (k + 2) (ad f) (fd f) f.ps (g f)) (cdv : Value) (A : Around) (out : List Env) (s : Shared) (H : Hp) (rm : Rm (k + 2) (A.deeper (PyProof.Rows.envOfC "are_triples" (defScope (top 46)) s.heap.objs.size (ad .Fare_triples) cdv))) :
    PSs (cxOf CX0 P w K mg base (Fn.ns .Fare_triples) "are_triples" (defScope (top 46)) (ad .Fare_triples) cdv A out s H E0).nox (defBody (top 46)) (sM T K (b_are_triples L g)) :=
  scons (sif (PW.pt (mtor (mtnot (mtst (mcallB (call_isiM) rfl U.n_isinstance bt_isinstance (acons (mvar 0) (acons (mty .tuple rfl U.n_tuple) (anil)))))) (mtor1 (mtcmp (o_gt) (mcallB (call_lenM) rfl U.n_len bt_len (acons (mvar 0) (anil))) (mgi rfl U.c_MOST_MEMBERS))))) (sone (sret (mbl))) (snil)) (scons (sset 2 sc_are_triples.nd (mdictT)) (scons (sfor L PassesOwn.never rfl (iover (mvar 0)) (gname 3 sc_are_triples.nd) (scons (sif (PW.pt (mtor (mtnot (mtst (mcallB (call_isiM) rfl U.n_isinstance bt_isinstance (acons (mvar 3) (acons (mty .tuple rfl U.n_tuple) (anil)))))) (mtor (mtcmp (o_ne rm.u64) (mcallB (call_lenM) rfl U.n_len bt_len (acons (mvar 3) (anil))) (mint)) (mtor (mtnot (mtst (fcall (F .Fis_points) rm rfl (U.mgf .Fis_points) (U.fn .Fis_points).kp (U.bind .Fis_points) (acons (mix rm.u1 (mvar 3) (mint)) (anil))))) (mtor1 (mtcmp (o_in rm.u65) (mix rm.u1 (mvar 3) (mint)) (mvar 2))))))) (sone (sret (mbl))) (snil)) (scons (sif (PW.pt (mtor (mtnot (mtst (mcallB (call_isiM) rfl U.n_isinstance bt_isinstance (acons (mix rm.u1 (mvar 3) (mint)) (acons (mty .str rfl U.n_str) (anil)))))) (mtor (mtcmp (o_nin rm.u65) (mix rm.u1 (mvar 3) (mint)) (mvar 1)) (mtor (mtnot (mtst (mcallB (call_isiM) rfl U.n_isinstance bt_isinstance (acons (mix rm.u1 (mvar 3) (mint)) (acons (mty .str rfl U.n_str) (anil)))))) (mtor1 (mtcmp (o_nin rm.u65) (mix rm.u1 (mvar 3) (mint)) (mgtx rfl U.g_DUES))))))) (sone (sret (mbl))) (snil)) (sone (sasg (mbl) (gsub rm.u1 (mvar 2) (mix rm.u1 (mvar 3) (mint)))))))) (sone (sret (mbl)))))
theorem ok_is_case (U : Txt K w mg ad fd) (U2 : Kds K w mg d_PARTS) (F : ∀ f, FnM T P w K mg base (k + 2) (ad f) (fd f) f.ps (g f)) (cdv : Value) (A : Around) (out : List Env) (s : Shared) (H : Hp) (rm : Rm (k + 2) (A.deeper (PyProof.Rows.envOfC "is_case" (defScope (top 47)) s.heap.objs.size (ad .Fis_case) cdv))) :
    PSs (cxOf CX0 P w K mg base (Fn.ns .Fis_case) "is_case" (defScope (top 47)) (ad .Fis_case) cdv A out s H E0).nox (defBody (top 47)) (sM T K (b_is_case L g)) :=
  scons (sif (PW.pt (mtor (mtnot (mtst (mcallB (call_isiM) rfl U.n_isinstance bt_isinstance (acons (mvar 0) (acons (mty .tuple rfl U.n_tuple) (anil)))))) (mtor (mtcmp (o_eq rm.u64) (mvar 0) (mtup (anil))) (mtor1 (mtnot (mtst (mcallB (call_isiM) rfl U.n_isinstance bt_isinstance (acons (mix rm.u1 (mvar 0) (mint)) (acons (mty .str rfl U.n_str) (anil)))))))))) (sone (sret (mbl))) (snil)) (scons (sif (mtcmp (o_in rm.u65) (mix rm.u1 (mvar 0) (mint)) (mgtx rfl U.g_WORDS)) (sone (sret (mcmp (o_eq rm.u64) (mcallB (call_lenM) rfl U.n_len bt_len (acons (mvar 0) (anil))) (mint)))) (snil)) (scons (sif (mtcmp (o_in rm.u65) (mix rm.u1 (mvar 0) (mint)) (mtup (acons (mgs rfl U.c_NUMBER) (acons (mgs rfl U.c_STRING) (anil))))) (sone (sret (mand (mcmp (o_eq rm.u64) (mcallB (call_lenM) rfl U.n_len bt_len (acons (mvar 0) (anil))) (mint)) (mone (fcall (F .Fare_tests_of) rm rfl (U.mgf .Fare_tests_of) (U.fn .Fare_tests_of).kp (U.bind .Fare_tests_of) (acons (mix rm.u1 (mvar 0) (mint)) (acons (mix rm.u1 (mvar 0) (mint)) (anil)))))))) (snil)) (scons (sif (mtcmp (o_eq rm.u64) (mix rm.u1 (mvar 0) (mint)) (mstr)) (sone (sret (mand (mcmp (o_eq rm.u64) (mcallB (call_lenM) rfl U.n_len bt_len (acons (mvar 0) (anil))) (mint)) (mone (fcall (F .Fis_pattern) rm rfl (U.mgf .Fis_pattern) (U.fn .Fis_pattern).kp (U.bind .Fis_pattern) (acons (mix rm.u1 (mvar 0) (mint)) (acons (mvar 1) (anil)))))))) (snil)) (scons (sif (PW.pt (mtor (mtcmp (o_ne rm.u64) (mix rm.u1 (mvar 0) (mint)) (mstr)) (mtor (mtcmp (o_ne rm.u64) (mcallB (call_lenM) rfl U.n_len bt_len (acons (mvar 0) (anil))) (mint)) (mtor1 (mtnot (mtst (fcall (F .Fare_triples) rm rfl (U.mgf .Fare_triples) (U.fn .Fare_triples).kp (U.bind .Fare_triples) (acons (mix rm.u1 (mvar 0) (mint)) (acons (mvar 1) (anil)))))))))) (sone (sret (mbl))) (snil)) (sone (sret (mor (mcmp (o_is) (mix rm.u1 (mvar 0) (mint)) (mnon)) (mone (mand (mcallB (call_isiM) rfl U.n_isinstance bt_isinstance (acons (mix rm.u1 (mvar 0) (mint)) (acons (mty .str rfl U.n_str) (anil)))) (mone (mcmp (o_in rm.u65) (mix rm.u1 (mvar 0) (mint)) (mvar 1))))))))))))
theorem ok_cases_in (U : Txt K w mg ad fd) (U2 : Kds K w mg d_PARTS) (F : ∀ f, FnM T P w K mg base (k + 2) (ad f) (fd f) f.ps (g f)) (cdv : Value) (A : Around) (out : List Env) (s : Shared) (H : Hp) (rm : Rm (k + 2) (A.deeper (PyProof.Rows.envOfC "cases_in" (defScope (top 48)) s.heap.objs.size (ad .Fcases_in) cdv))) :
    PSs (cxOf CX0 P w K mg base (Fn.ns .Fcases_in) "cases_in" (defScope (top 48)) (ad .Fcases_in) cdv A out s H E0).nox (defBody (top 48)) (sM T K (b_cases_in L g)) :=
  scons (sset 1 sc_cases_in.nd (mlst (anil))) (scons (sfor L PassesOwn.never rfl (iover (mcallB (call_sdicI rfl) rfl U.n_sorted bt_sorted (acons (mvar 0) (anil)))) (gname 2 sc_cases_in.nd) (sone (saug 1 iop_addM sc_cases_in.nd (mlc L [("case", 3)] rfl sc_cases_in.nd (iover (mix rm.u1 (mvar 0) (mvar 2))) rfl (fun _ _ _ _ _ => wname 3 sc_cases_in.nd) (fun _ _ _ _ _ => ptsnil) (fun _ _ _ _ _ => mtup (acons (mvar 2) (acons (mvar 3) (anil)))))))) (sone (sret (mvar 1))))
theorem ok_tests_in (U : Txt K w mg ad fd) (U2 : Kds K w mg d_PARTS) (F : ∀ f, FnM T P w K mg base (k + 2) (ad f) (fd f) f.ps (g f)) (cdv : Value) (A : Around) (out : List Env) (s : Shared) (H : Hp) (rm : Rm (k + 2) (A.deeper (PyProof.Rows.envOfC "tests_in" (defScope (top 49)) s.heap.objs.size (ad .Ftests_in) cdv))) :
    PSs (cxOf CX0 P w K mg base (Fn.ns .Ftests_in) "tests_in" (defScope (top 49)) (ad .Ftests_in) cdv A out s H E0).nox (defBody (top 49)) (sM T K (b_tests_in L g)) :=
  scons (sset 1 sc_tests_in.nd (mlst (anil))) (scons (sfor L PassesOwn.never rfl (iover (fcall (F .Fcases_in) rm rfl (U.mgf .Fcases_in) (U.fn .Fcases_in).kp (U.bind .Fcases_in) (acons (mvar 0) (anil)))) (gtup rfl (gcons (gname 2 sc_tests_in.nd) (gcons (gname 3 sc_tests_in.nd) (gnil)))) (sone (saug 1 iop_addM sc_tests_in.nd (mif (mtcmp (o_in rm.u65) (mix rm.u1 (mvar 3) (mint)) (mtup (acons (mgs rfl U.c_NUMBER) (acons (mgs rfl U.c_STRING) (anil))))) (mcallT (call_listEM rfl) rfl U.n_list bt_list (acons (mix rm.u1 (mvar 3) (mint)) (anil))) (mlst (anil)))))) (sone (sret (mcallT (call_tupleM) rfl U.n_tuple bt_tuple (acons (msetI rfl rm.u64 (mvar 1) (hm := U.n_sorted) (hm2 := U.n_set)) (anil))))))
theorem ok_points_in (U : Txt K w mg ad fd) (U2 : Kds K w mg d_PARTS) (F : ∀ f, FnM T P w K mg base (k + 2) (ad f) (fd f) f.ps (g f)) (cdv : Value) (A : Around) (out : List Env) (s : Shared) (H : Hp) (rm : Rm (k + 2) (A.deeper (PyProof.Rows.envOfC "points_in" (defScope (top 50)) s.heap.objs.size (ad .Fpoints_in) cdv))) :
    PSs (cxOf CX0 P w K mg base (Fn.ns .Fpoints_in) "points_in" (defScope (top 50)) (ad .Fpoints_in) cdv A out s H E0).nox (defBody (top 50)) (sM T K (b_points_in L g)) :=
  scons (sset 1 sc_points_in.nd (mlst (anil))) (scons (sfor L PassesOwn.never rfl (iover (fcall (F .Fcases_in) rm rfl (U.mgf .Fcases_in) (U.fn .Fcases_in).kp (U.bind .Fcases_in) (acons (mvar 0) (anil)))) (gtup rfl (gcons (gname 2 sc_points_in.nd) (gcons (gname 3 sc_points_in.nd) (gnil)))) (sone (saug 1 iop_addM sc_points_in.nd (mif (mtcmp (o_eq rm.u64) (mix rm.u1 (mvar 3) (mint)) (mstr)) (mlc L [("one", 4)] rfl sc_points_in.nd (iover (mix rm.u1 (mvar 3) (mint))) rfl (fun _ _ _ _ _ => wname 4 sc_points_in.nd) (fun _ _ _ _ _ => ptsnil) (fun _ _ _ _ _ => mix rm.u1 (mvar 4) (mint))) (mlst (anil)))))) (sone (sret (mcallT (call_tupleM) rfl U.n_tuple bt_tuple (acons (msetI rfl rm.u64 (mvar 1) (hm := U.n_sorted) (hm2 := U.n_set)) (anil))))))
theorem ok_is_book (U : Txt K w mg ad fd) (U2 : Kds K w mg d_PARTS) (F : ∀ f, FnM T P w K mg base (k + 2) (ad f) (fd f) f.ps (g f)) (cdv : Value) (A : Around) (out : List Env) (s : Shared) (H : Hp) (rm : Rm (k + 2) (A.deeper (PyProof.Rows.envOfC "is_book" (defScope (top 51)) s.heap.objs.size (ad .Fis_book) cdv))) :
    PSs (cxOf CX0 P w K mg base (Fn.ns .Fis_book) "is_book" (defScope (top 51)) (ad .Fis_book) cdv A out s H E0).nox (defBody (top 51)) (sM T K (b_is_book L g)) :=
  scons (sif (PW.pt (mtor (mtnot (mtst (mcallB (call_isiM) rfl U.n_isinstance bt_isinstance (acons (mvar 0) (acons (mty .dict rfl U.n_dict) (anil)))))) (mtor1 (mtnot (mtchainP (o_le) (o_le) (mint) (mcallB (call_lenM) rfl U.n_len bt_len (acons (mvar 0) (anil))) (mgi rfl U.c_MOST_NAMES)))))) (sone (sret (mbl))) (snil)) (scons (sif (mtnot (mtst (mcallB (call_allM rfl) rfl U.n_all bt_all (acons (elock (i := 0) (mlc L [("name", 2)] rfl sc_is_book.nd (ikeys (mvar 0)) rfl (fun _ _ _ _ _ => wname 2 sc_is_book.nd) (fun _ _ _ _ _ => ptsnil) (fun _ _ _ _ _ => fcall (F .Fis_type_name) rm rfl (U.mgf .Fis_type_name) (U.fn .Fis_type_name).kp (U.bind .Fis_type_name) (acons (mvar 2) (anil))))) (anil))))) (sone (sret (mbl))) (snil)) (scons (slock (i := 0) (sfor L PassesOwn.never rfl (ivals (mvar 0)) (gname 1 sc_is_book.nd) (sone (sif (PW.pt (mtor (mtnot (mtst (mcallB (call_isiM) rfl U.n_isinstance bt_isinstance (acons (mvar 1) (acons (mty .tuple rfl U.n_tuple) (anil)))))) (mtor (mtcmp (o_gt) (mcallB (call_lenM) rfl U.n_len bt_len (acons (mvar 1) (anil))) (mgi rfl U.c_MOST_CASES)) (mtor1 (mtnot (mtst (mcallB (call_allM rfl) rfl U.n_all bt_all (acons (mlc L [("one", 3)] rfl sc_is_book.nd (iover (mvar 1)) rfl (fun _ _ _ _ _ => wname 3 sc_is_book.nd) (fun _ _ _ _ _ => ptsnil) (fun _ _ _ _ _ => fcall (F .Fis_case) rm rfl (U.mgf .Fis_case) (U.fn .Fis_case).kp (U.bind .Fis_case) (acons (mvar 3) (acons (mvar 0) (anil))))) (anil))))))))) (sone (sret (mbl))) (snil))))) (sone (sret (mand (mcmp (o_le) (mcallB (call_lenM) rfl U.n_len bt_len (acons (fcall (F .Ftests_in) rm rfl (U.mgf .Ftests_in) (U.fn .Ftests_in).kp (U.bind .Ftests_in) (acons (mvar 0) (anil))) (anil))) (mgi rfl U.c_MOST_TESTS)) (mone (mcmp (o_le) (mcallB (call_lenM) rfl U.n_len bt_len (acons (fcall (F .Fpoints_in) rm rfl (U.mgf .Fpoints_in) (U.fn .Fpoints_in).kp (U.bind .Fpoints_in) (acons (mvar 0) (anil))) (anil))) (mgi rfl U.c_MOST_KNOWN))))))))
theorem ok_need_book (U : Txt K w mg ad fd) (U2 : Kds K w mg d_PARTS) (F : ∀ f, FnM T P w K mg base (k + 2) (ad f) (fd f) f.ps (g f)) (cdv : Value) (A : Around) (out : List Env) (s : Shared) (H : Hp) (rm : Rm (k + 2) (A.deeper (PyProof.Rows.envOfC "need_book" (defScope (top 52)) s.heap.objs.size (ad .Fneed_book) cdv))) :
    PSs (cxOf CX0 P w K mg base (Fn.ns .Fneed_book) "need_book" (defScope (top 52)) (ad .Fneed_book) cdv A out s H E0).nox (defBody (top 52)) (sM T K (b_need_book L g)) :=
  sone (sif (mtnot (mtst (fcall (F .Fis_book) rm rfl (U.mgf .Fis_book) (U.fn .Fis_book).kp (U.bind .Fis_book) (acons (mvar 0) (anil))))) (sone (sfail)) (snil))
theorem ok_tests_of (U : Txt K w mg ad fd) (U2 : Kds K w mg d_PARTS) (F : ∀ f, FnM T P w K mg base (k + 2) (ad f) (fd f) f.ps (g f)) (cdv : Value) (A : Around) (out : List Env) (s : Shared) (H : Hp) (rm : Rm (k + 2) (A.deeper (PyProof.Rows.envOfC "tests_of" (defScope (top 53)) s.heap.objs.size (ad .Ftests_of) cdv))) :
    PSs (cxOf CX0 P w K mg base (Fn.ns .Ftests_of) "tests_of" (defScope (top 53)) (ad .Ftests_of) cdv A out s H E0).nox (defBody (top 53)) (sM T K (b_tests_of L g)) :=
  scons (sdrop (fcall (F .Fneed_book) rm rfl (U.mgf .Fneed_book) (U.fn .Fneed_book).kp (U.bind .Fneed_book) (acons (mvar 0) (anil)))) (sone (sret (fcall (F .Ftests_in) rm rfl (U.mgf .Ftests_in) (U.fn .Ftests_in).kp (U.bind .Ftests_in) (acons (mvar 0) (anil)))))
theorem ok_known_of (U : Txt K w mg ad fd) (U2 : Kds K w mg d_PARTS) (F : ∀ f, FnM T P w K mg base (k + 2) (ad f) (fd f) f.ps (g f)) (cdv : Value) (A : Around) (out : List Env) (s : Shared) (H : Hp) (rm : Rm (k + 2) (A.deeper (PyProof.Rows.envOfC "known_of" (defScope (top 54)) s.heap.objs.size (ad .Fknown_of) cdv))) :
    PSs (cxOf CX0 P w K mg base (Fn.ns .Fknown_of) "known_of" (defScope (top 54)) (ad .Fknown_of) cdv A out s H E0).nox (defBody (top 54)) (sM T K (b_known_of L g)) :=
  scons (sdrop (fcall (F .Fneed_book) rm rfl (U.mgf .Fneed_book) (U.fn .Fneed_book).kp (U.bind .Fneed_book) (acons (mvar 0) (anil)))) (sone (sret (fcall (F .Fpoints_in) rm rfl (U.mgf .Fpoints_in) (U.fn .Fpoints_in).kp (U.bind .Fpoints_in) (acons (mvar 0) (anil)))))
theorem ok__law_begun (U : Txt K w mg ad fd) (U2 : Kds K w mg d_PARTS) (F : ∀ f, FnM T P w K mg base (k + 2) (ad f) (fd f) f.ps (g f)) (cdv : Value) (A : Around) (out : List Env) (s : Shared) (H : Hp) (rm : Rm (k + 2) (A.deeper (PyProof.Rows.envOfC "_law_begun" (defScope (top 56)) s.heap.objs.size (ad .F_law_begun) cdv))) :
    PSs (cxOf CX0 P w K mg base (Fn.ns .F_law_begun) "_law_begun" (defScope (top 56)) (ad .F_law_begun) cdv A out s H E0).nox (defBody (top 56)) (sM T K (b__law_begun L g)) :=
  scons (ssetLc 1 L [("cell", 2)] rfl sc__law_begun.nd (iover (mvar 0)) rfl (fun _ _ _ _ _ => wname 2 sc__law_begun.nd) (fun _ _ _ _ _ => ptsone (mtcmp (o_ge) (mcallB (call_absM) rfl U.n_abs bt_abs (acons (mvar 2) (anil))) (mbin .Pow (mint) (mint)))) (fun _ _ _ _ _ => mbin .Sub (mcallB (call_absM) rfl U.n_abs bt_abs (acons (mvar 2) (anil))) (mbin .Pow (mint) (mint)))) (sone (sret (mdisp (prs := (cD (.str "great"), varD 1) :: (cD (.str "cells"), lcD L [2] (overS (varD 0)) (nameG 2) (yesT) (callD (on1 absD) (consA (varD 2) (nilA)))) :: (cD (.str "rest"), cD (.int 0)) :: (cD (.str "turn"), cD (.int 0)) :: []) (dcons (mstr) (mvar 1) (dcons (mstr) (mlc L [("cell", 2)] rfl sc__law_begun.nd (iover (mvar 0)) rfl (fun _ _ _ _ _ => wname 2 sc__law_begun.nd) (fun _ _ _ _ _ => ptsnil) (fun _ _ _ _ _ => mcallB (call_absM) rfl U.n_abs bt_abs (acons (mvar 2) (anil)))) (dcons (mstr) (mint) (dcons (mstr) (mint) (dnil))))))))
theorem ok__law_mixed (U : Txt K w mg ad fd) (U2 : Kds K w mg d_PARTS) (F : ∀ f, FnM T P w K mg base (k + 2) (ad f) (fd f) f.ps (g f)) (cdv : Value) (A : Around) (out : List Env) (s : Shared) (H : Hp) (rm : Rm (k + 2) (A.deeper (PyProof.Rows.envOfC "_law_mixed" (defScope (top 57)) s.heap.objs.size (ad .F_law_mixed) cdv))) :
    PSs (cxOf CX0 P w K mg base (Fn.ns .F_law_mixed) "_law_mixed" (defScope (top 57)) (ad .F_law_mixed) cdv A out s H E0).nox (defBody (top 57)) (sM T K (b__law_mixed L g)) :=
  scons (spar 1 2 rfl sc__law_mixed.nd (acons (mbin .Add (mix rm.u1 (mvar 0) (mstr)) (mint)) (acons (mint) (anil)))) (scons (sasg (mvar 1) (gsub rm.u1 (mvar 0) (mstr))) (scons (sfor L PassesOwn.never rfl (iover (mlst (acons (mint) (acons (mint) (acons (mint) (acons (mint) (anil))))))) (gname 3 sc__law_mixed.nd) (scons (sset 4 sc__law_mixed.nd (mbin .Add (mbin .Mult (mint) (mvar 1)) (mbin .FloorDiv (mvar 3) (mint)))) (scons (sfor L PassesOwn.never rfl (iover (mix rm.u1 (mvar 0) (mstr))) (gname 5 sc__law_mixed.nd) (sone (sset 4 sc__law_mixed.nd (mbin .Mod (mcallT (call_intM) rfl U.n_int bt_int (acons (mbin .Add (mbin .Add (mbin .Mult (mvar 4) (mint)) (mvar 5)) (mvar 1)) (anil))) (mvar 3))))) (sone (sset 2 sc__law_mixed.nd (mbin .Add (mbin .Mult (mvar 2) (mint)) (mbin .Mod (mcallT (call_intM) rfl U.n_int bt_int (acons (mbin .Pow (mvar 4) (mint)) (anil))) (mvar 3)))))))) (sone (sret (mvar 2)))))
theorem ok__law_draw (U : Txt K w mg ad fd) (U2 : Kds K w mg d_PARTS) (F : ∀ f, FnM T P w K mg base (k + 2) (ad f) (fd f) f.ps (g f)) (cdv : Value) (A : Around) (out : List Env) (s : Shared) (H : Hp) (rm : Rm (k + 2) (A.deeper (PyProof.Rows.envOfC "_law_draw" (defScope (top 58)) s.heap.objs.size (ad .F_law_draw) cdv))) :
    PSs (cxOf CX0 P w K mg base (Fn.ns .F_law_draw) "_law_draw" (defScope (top 58)) (ad .F_law_draw) cdv A out s H E0).nox (defBody (top 58)) (sM T K (b__law_draw L g)) :=
  scons (sif (mtcmp (o_eq rm.u64) (mix rm.u1 (mvar 0) (mstr)) (mint)) (sone (sasg (mif (mtcmp (o_ne rm.u64) (mix rm.u1 (mvar 0) (mstr)) (mlst (anil))) (mlm PySem.F.slot_list_pop PySem.F.type_list_pop mt_popM (mix rm.u1 (mvar 0) (mstr)) (acons (mint) (anil))) (fcall (F .F_law_mixed) rm rfl (U.mgf .F_law_mixed) (U.fn .F_law_mixed).kp (U.bind .F_law_mixed) (acons (mvar 0) (anil)))) (gsub rm.u1 (mvar 0) (mstr)))) (snil)) (scons (sset 2 sc__law_draw.nd (mbin .Mod (mcallT (call_intM) rfl U.n_int bt_int (acons (mix rm.u1 (mvar 0) (mstr)) (anil))) (mvar 1))) (scons (sasg (mbin .FloorDiv (mix rm.u1 (mvar 0) (mstr)) (mvar 1)) (gsub rm.u1 (mvar 0) (mstr))) (sone (sret (mvar 2)))))
theorem ok__law_pick (U : Txt K w mg ad fd) (U2 : Kds K w mg d_PARTS) (F : ∀ f, FnM T P w K mg base (k + 2) (ad f) (fd f) f.ps (g f)) (cdv : Value) (A : Around) (out : List Env) (s : Shared) (H : Hp) (rm : Rm (k + 2) (A.deeper (PyProof.Rows.envOfC "_law_pick" (defScope (top 59)) s.heap.objs.size (ad .F_law_pick) cdv))) :
    PSs (cxOf CX0 P w K mg base (Fn.ns .F_law_pick) "_law_pick" (defScope (top 59)) (ad .F_law_pick) cdv A out s H E0).nox (defBody (top 59)) (sM T K (b__law_pick L g)) :=
  sone (sret (mix rm.u1 (mvar 1) (fcall (F .F_law_draw) rm rfl (U.mgf .F_law_draw) (U.fn .F_law_draw).kp (U.bind .F_law_draw) (acons (mvar 0) (acons (mcallB (call_lenM) rfl U.n_len bt_len (acons (mvar 1) (anil))) (anil))))))
theorem ok__law_shuffled (U : Txt K w mg ad fd) (U2 : Kds K w mg d_PARTS) (F : ∀ f, FnM T P w K mg base (k + 2) (ad f) (fd f) f.ps (g f)) (cdv : Value) (A : Around) (out : List Env) (s : Shared) (H : Hp) (rm : Rm (k + 2) (A.deeper (PyProof.Rows.envOfC "_law_shuffled" (defScope (top 60)) s.heap.objs.size (ad .F_law_shuffled) cdv))) :
    PSs (cxOf CX0 P w K mg base (Fn.ns .F_law_shuffled) "_law_shuffled" (defScope (top 60)) (ad .F_law_shuffled) cdv A out s H E0).nox (defBody (top 60)) (sM T K (b__law_shuffled L g)) :=
  scons (spar 2 3 rfl sc__law_shuffled.nd (acons (mcallT (call_listEM rfl) rfl U.n_list bt_list (acons (mvar 1) (anil))) (acons (mlst (anil)) (anil)))) (scons (swhile L PassesOwn.never (mtcmp (o_ne rm.u64) (mvar 2) (mlst (anil))) (sone (sdrop (mlm PySem.F.slot_list_append PySem.F.type_list_append mt_appendM (mvar 3) (acons (mlm PySem.F.slot_list_pop PySem.F.type_list_pop mt_popM (mvar 2) (acons (fcall (F .F_law_draw) rm rfl (U.mgf .F_law_draw) (U.fn .F_law_draw).kp (U.bind .F_law_draw) (acons (mvar 0) (acons (mcallB (call_lenM) rfl U.n_len bt_len (acons (mvar 2) (anil))) (anil)))) (anil))) (anil)))))) (sone (sret (mvar 3))))
theorem ok__law_number (U : Txt K w mg ad fd) (U2 : Kds K w mg d_PARTS) (F : ∀ f, FnM T P w K mg base (k + 2) (ad f) (fd f) f.ps (g f)) (cdv : Value) (A : Around) (out : List Env) (s : Shared) (H : Hp) (rm : Rm (k + 2) (A.deeper (PyProof.Rows.envOfC "_law_number" (defScope (top 61)) s.heap.objs.size (ad .F_law_number) cdv))) :
    PSs (cxOf CX0 P w K mg base (Fn.ns .F_law_number) "_law_number" (defScope (top 61)) (ad .F_law_number) cdv A out s H E0).nox (defBody (top 61)) (sM T K (b__law_number L g)) :=
  scons (swhile L PassesOwn.never (PW.pt (mtand (mtcmp (o_ne rm.u64) (mvar 0) (mint)) (mtand1 (mtcmp (o_eq rm.u64) (mbin .Mod (mvar 0) (mint)) (mint))))) (sone (spar 0 1 rfl sc__law_number.nd (acons (mbin .FloorDiv (mvar 0) (mint)) (acons (mbin .Add (mvar 1) (mint)) (anil)))))) (sone (sret (mif (mtcmp (o_ne rm.u64) (mvar 0) (mint)) (mtup (acons (mstr) (acons (mvar 0) (acons (mvar 1) (anil))))) (mtup (acons (mstr) (acons (mint) (acons (mint) (anil))))))))
theorem ok__law_some_test (U : Txt K w mg ad fd) (U2 : Kds K w mg d_PARTS) (F : ∀ f, FnM T P w K mg base (k + 2) (ad f) (fd f) f.ps (g f)) (cdv : Value) (A : Around) (out : List Env) (s : Shared) (H : Hp) (rm : Rm (k + 2) (A.deeper (PyProof.Rows.envOfC "_law_some_test" (defScope (top 62)) s.heap.objs.size (ad .F_law_some_test) cdv))) :
    PSs (cxOf CX0 P w K mg base (Fn.ns .F_law_some_test) "_law_some_test" (defScope (top 62)) (ad .F_law_some_test) cdv A out s H E0).nox (defBody (top 62)) (sM T K (b__law_some_test L g)) :=
  scons (sset 2 sc__law_some_test.nd (fcall (F .F_law_pick) rm rfl (U.mgf .F_law_pick) (U.fn .F_law_pick).kp (U.bind .F_law_pick) (acons (mvar 0) (acons (mlst (acons (mstr) (acons (mstr) (acons (mstr) (acons (mstr) (acons (mstr) (anil))))))) (anil))))) (scons (sif (mtcmp (o_eq rm.u64) (mvar 1) (mstr)) (sone (sret (mtup (acons (mvar 2) (acons (fcall (F .F_law_number) rm rfl (U.mgf .F_law_number) (U.fn .F_law_number).kp (U.bind .F_law_number) (acons (mbin .Sub (fcall (F .F_law_draw) rm rfl (U.mgf .F_law_draw) (U.fn .F_law_draw).kp (U.bind .F_law_draw) (acons (mvar 0) (acons (mint) (anil)))) (mint)) (acons (fcall (F .F_law_pick) rm rfl (U.mgf .F_law_pick) (U.fn .F_law_pick).kp (U.bind .F_law_pick) (acons (mvar 0) (acons (mlst (acons (mint) (acons (mint) (acons (mint) (acons (mneg (mint)) (acons (mint) (anil))))))) (anil)))) (anil)))) (anil)))))) (snil)) (sone (sret (mtup (acons (mvar 2) (acons (mtup (acons (mstr) (acons (fcall (F .F_law_pick) rm rfl (U.mgf .F_law_pick) (U.fn .F_law_pick).kp (U.bind .F_law_pick) (acons (mvar 0) (acons (mlst (acons (mtup (anil)) (acons (mtup (acons (mint) (anil))) (acons (mtup (acons (mint) (acons (mint) (anil)))) (acons (mtup (acons (mint) (anil))) (acons (mtup (acons (mint) (acons (mint) (anil)))) (acons (mtup (acons (mint) (anil))) (acons (mtup (acons (mint) (anil))) (anil))))))))) (anil)))) (anil)))) (anil)))))))
theorem ok__law_some_pattern (U : Txt K w mg ad fd) (U2 : Kds K w mg d_PARTS) (F : ∀ f, FnM T P w K mg base (k + 2) (ad f) (fd f) f.ps (g f)) (cdv : Value) (A : Around) (out : List Env) (s : Shared) (H : Hp) (rm : Rm (k + 2) (A.deeper (PyProof.Rows.envOfC "_law_some_pattern" (defScope (top 63)) s.heap.objs.size (ad .F_law_some_pattern) cdv))) :
    PSs (cxOf CX0 P w K mg base (Fn.ns .F_law_some_pattern) "_law_some_pattern" (defScope (top 63)) (ad .F_law_some_pattern) cdv A out s H E0).nox (defBody (top 63)) (sM T K (b__law_some_pattern L g)) :=
  scons (sset 3 sc__law_some_pattern.nd (mif (mtcmp (o_gt) (mvar 2) (mint)) (fcall (F .F_law_draw) rm rfl (U.mgf .F_law_draw) (U.fn .F_law_draw).kp (U.bind .F_law_draw) (acons (mvar 0) (acons (mint) (anil)))) (fcall (F .F_law_draw) rm rfl (U.mgf .F_law_draw) (U.fn .F_law_draw).kp (U.bind .F_law_draw) (acons (mvar 0) (acons (mint) (anil)))))) (scons (sif (mtcmp (o_eq rm.u64) (mvar 3) (mint)) (sone (sret (mtup (acons (mstr) (anil))))) (snil)) (scons (sif (mtcmp (o_lt) (mvar 3) (mint)) (sone (sret (mtup (acons (mstr) (acons (fcall (F .F_law_pick) rm rfl (U.mgf .F_law_pick) (U.fn .F_law_pick).kp (U.bind .F_law_pick) (acons (mvar 0) (acons (mvar 1) (anil)))) (anil)))))) (snil)) (scons (sif (mtcmp (o_eq rm.u64) (mvar 3) (mint)) (sone (sret (mtup (acons (mstr) (acons (fcall (F .F_law_some_pattern) rm rfl (U.mgf .F_law_some_pattern) (U.fn .F_law_some_pattern).kp (U.bind .F_law_some_pattern) (acons (mvar 0) (acons (mvar 1) (acons (mbin .Sub (mvar 2) (mint)) (anil))))) (anil)))))) (snil)) (sone (sret (mtup (acons (fcall (F .F_law_pick) rm rfl (U.mgf .F_law_pick) (U.fn .F_law_pick).kp (U.bind .F_law_pick) (acons (mvar 0) (acons (mlst (acons (mstr) (acons (mstr) (acons (mstr) (anil))))) (anil)))) (acons (fcall (F .F_law_some_pattern) rm rfl (U.mgf .F_law_some_pattern) (U.fn .F_law_some_pattern).kp (U.bind .F_law_some_pattern) (acons (mvar 0) (acons (mvar 1) (acons (mbin .Sub (mvar 2) (mint)) (anil))))) (acons (fcall (F .F_law_some_pattern) rm rfl (U.mgf .F_law_some_pattern) (U.fn .F_law_some_pattern).kp (U.bind .F_law_some_pattern) (acons (mvar 0) (acons (mvar 1) (acons (mbin .Sub (mvar 2) (mint)) (anil))))) (anil))))))))))
theorem ok__law_some_points (U : Txt K w mg ad fd) (U2 : Kds K w mg d_PARTS) (F : ∀ f, FnM T P w K mg base (k + 2) (ad f) (fd f) f.ps (g f)) (cdv : Value) (A : Around) (out : List Env) (s : Shared) (H : Hp) (rm : Rm (k + 2) (A.deeper (PyProof.Rows.envOfC "_law_some_points" (defScope (top 64)) s.heap.objs.size (ad .F_law_some_points) cdv))) :
    PSs (cxOf CX0 P w K mg base (Fn.ns .F_law_some_points) "_law_some_points" (defScope (top 64)) (ad .F_law_some_points) cdv A out s H E0).nox (defBody (top 64)) (sM T K (b__law_some_points L g)) :=
  sone (sret (fcall (F .F_law_pick) rm rfl (U.mgf .F_law_pick) (U.fn .F_law_pick).kp (U.bind .F_law_pick) (acons (mvar 0) (acons (mlst (acons (mtup (acons (mint) (anil))) (acons (mtup (acons (mint) (anil))) (acons (mtup (acons (mint) (anil))) (acons (mtup (anil)) (acons (mtup (acons (mint) (acons (mint) (anil)))) (acons (mtup (acons (mint) (anil))) (anil)))))))) (anil)))))
theorem ok__law_some_members (U : Txt K w mg ad fd) (U2 : Kds K w mg d_PARTS) (F : ∀ f, FnM T P w K mg base (k + 2) (ad f) (fd f) f.ps (g f)) (cdv : Value) (A : Around) (out : List Env) (s : Shared) (H : Hp) (rm : Rm (k + 2) (A.deeper (PyProof.Rows.envOfC "_law_some_members" (defScope (top 65)) s.heap.objs.size (ad .F_law_some_members) cdv))) :
    PSs (cxOf CX0 P w K mg base (Fn.ns .F_law_some_members) "_law_some_members" (defScope (top 65)) (ad .F_law_some_members) cdv A out s H E0).nox (defBody (top 65)) (sM T K (b__law_some_members L g)) :=
  scons (sset 2 sc__law_some_members.nd (mlst (anil))) (scons (sfor L PassesOwn.never rfl (irange1 rfl U.n_range (fcall (F .F_law_draw) rm rfl (U.mgf .F_law_draw) (U.fn .F_law_draw).kp (U.bind .F_law_draw) (acons (mvar 0) (acons (mint) (anil))))) (gname 3 sc__law_some_members.nd) (scons (sset 4 sc__law_some_members.nd (fcall (F .F_law_some_points) rm rfl (U.mgf .F_law_some_points) (U.fn .F_law_some_points).kp (U.bind .F_law_some_points) (acons (mvar 0) (anil)))) (sone (sif (mtcmp (o_nin rm.u65) (mvar 4) (mlc L [("one", 5)] rfl sc__law_some_members.nd (iover (mvar 2)) rfl (fun _ _ _ _ _ => wname 5 sc__law_some_members.nd) (fun _ _ _ _ _ => ptsnil) (fun _ _ _ _ _ => mix rm.u1 (mvar 5) (mint)))) (sone (sdrop (mlm PySem.F.slot_list_append PySem.F.type_list_append mt_appendM (mvar 2) (acons (mtup (acons (mvar 4) (acons (fcall (F .F_law_pick) rm rfl (U.mgf .F_law_pick) (U.fn .F_law_pick).kp (U.bind .F_law_pick) (acons (mvar 0) (acons (mvar 1) (anil)))) (acons (fcall (F .F_law_pick) rm rfl (U.mgf .F_law_pick) (U.fn .F_law_pick).kp (U.bind .F_law_pick) (acons (mvar 0) (acons (mlst (acons (mstr) (acons (mstr) (acons (mstr) (anil))))) (anil)))) (anil))))) (anil))))) (snil))))) (sone (sret (mcallT (call_tupleM) rfl U.n_tuple bt_tuple (acons (mvar 2) (anil))))))
theorem ok__law_some_case (U : Txt K w mg ad fd) (U2 : Kds K w mg d_PARTS) (F : ∀ f, FnM T P w K mg base (k + 2) (ad f) (fd f) f.ps (g f)) (cdv : Value) (A : Around) (out : List Env) (s : Shared) (H : Hp) (rm : Rm (k + 2) (A.deeper (PyProof.Rows.envOfC "_law_some_case" (defScope (top 66)) s.heap.objs.size (ad .F_law_some_case) cdv))) :
    PSs (cxOf CX0 P w K mg base (Fn.ns .F_law_some_case) "_law_some_case" (defScope (top 66)) (ad .F_law_some_case) cdv A out s H E0).nox (defBody (top 66)) (sM T K (b__law_some_case L g)) :=
  scons (sset 3 sc__law_some_case.nd (fcall (F .F_law_draw) rm rfl (U.mgf .F_law_draw) (U.fn .F_law_draw).kp (U.bind .F_law_draw) (acons (mvar 0) (acons (mint) (anil))))) (scons (sif (mtcmp (o_lt) (mvar 3) (mint)) (sone (sret (mtup (acons (fcall (F .F_law_pick) rm rfl (U.mgf .F_law_pick) (U.fn .F_law_pick).kp (U.bind .F_law_pick) (acons (mvar 0) (acons (mlst (acons (mstr) (acons (mstr) (acons (mstr) (anil))))) (anil)))) (anil))))) (snil)) (scons (sif (mtcmp (o_lt) (mvar 3) (mint)) (scons (sset 4 sc__law_some_case.nd (fcall (F .F_law_pick) rm rfl (U.mgf .F_law_pick) (U.fn .F_law_pick).kp (U.bind .F_law_pick) (acons (mvar 0) (acons (mlst (acons (mstr) (acons (mstr) (anil)))) (anil))))) (scons (sset 5 sc__law_some_case.nd (mlc L [("test", 6)] rfl sc__law_some_case.nd (iover (mvar 2)) rfl (fun _ _ _ _ _ => wname 6 sc__law_some_case.nd) (fun _ _ _ _ _ => ptsone (mtcmp (o_eq rm.u64) (mix rm.u1 (mix rm.u1 (mvar 6) (mint)) (mint)) (mvar 4))) (fun _ _ _ _ _ => mvar 6))) (sone (sret (mtup (acons (mvar 4) (acons (mif (mtcmp (o_ne rm.u64) (mvar 5) (mlst (anil))) (mcallT (call_tupleM) rfl U.n_tuple bt_tuple (acons (mlc L [("lap", 7)] rfl sc__law_some_case.nd (irange1 rfl U.n_range (fcall (F .F_law_draw) rm rfl (U.mgf .F_law_draw) (U.fn .F_law_draw).kp (U.bind .F_law_draw) (acons (mvar 0) (acons (mint) (anil))))) rfl (fun _ _ _ _ _ => wname 7 sc__law_some_case.nd) (fun _ _ _ _ _ => ptsnil) (fun _ _ _ _ _ => fcall (F .F_law_pick) rm rfl (U.mgf .F_law_pick) (U.fn .F_law_pick).kp (U.bind .F_law_pick) (acons (mvar 0) (acons (mvar 5) (anil))))) (anil))) (mtup (anil))) (anil)))))))) (snil)) (scons (sif (mtcmp (o_lt) (mvar 3) (mint)) (sone (sret (mtup (acons (mstr) (acons (fcall (F .F_law_some_pattern) rm rfl (U.mgf .F_law_some_pattern) (U.fn .F_law_some_pattern).kp (U.bind .F_law_some_pattern) (acons (mvar 0) (acons (mvar 1) (acons (mint) (anil))))) (anil)))))) (snil)) (sone (sret (mtup (acons (mstr) (acons (fcall (F .F_law_some_members) rm rfl (U.mgf .F_law_some_members) (U.fn .F_law_some_members).kp (U.bind .F_law_some_members) (acons (mvar 0) (acons (mvar 1) (anil)))) (acons (fcall (F .F_law_pick) rm rfl (U.mgf .F_law_pick) (U.fn .F_law_pick).kp (U.bind .F_law_pick) (acons (mvar 0) (acons (mbin .Add (mlst (acons (mnon) (acons (mnon) (anil)))) (mvar 1)) (anil)))) (anil))))))))))
theorem ok__law_some_book (U : Txt K w mg ad fd) (U2 : Kds K w mg d_PARTS) (F : ∀ f, FnM T P w K mg base (k + 2) (ad f) (fd f) f.ps (g f)) (cdv : Value) (A : Around) (out : List Env) (s : Shared) (H : Hp) (rm : Rm (k + 2) (A.deeper (PyProof.Rows.envOfC "_law_some_book" (defScope (top 67)) s.heap.objs.size (ad .F_law_some_book) cdv))) :
    PSs (cxOf CX0 P w K mg base (Fn.ns .F_law_some_book) "_law_some_book" (defScope (top 67)) (ad .F_law_some_book) cdv A out s H E0).nox (defBody (top 67)) (sM T K (b__law_some_book L g)) :=
  scons (sset 2 sc__law_some_book.nd (mslice (fcall (F .F_law_shuffled) rm rfl (U.mgf .F_law_shuffled) (U.fn .F_law_shuffled).kp (U.bind .F_law_shuffled) (acons (mvar 0) (acons (mlst (acons (mstr) (acons (mstr) (acons (mstr) (acons (mstr) (acons (mstr) (acons (mstr) (acons (mstr) (acons (mstr) (anil)))))))))) (anil)))) (ponone) (posome (mbin .Add (mint) (fcall (F .F_law_draw) rm rfl (U.mgf .F_law_draw) (U.fn .F_law_draw).kp (U.bind .F_law_draw) (acons (mvar 0) (acons (mvar 1) (anil)))))))) (scons (sasg (mtup (acons (mlst (anil)) (acons (mdictK) (anil)))) (gtup rfl (gcons (gname 3 sc__law_some_book.nd) (gcons (gname 4 sc__law_some_book.nd) (gnil))))) (scons (sfor L PassesOwn.never rfl (irange1 rfl U.n_range (mbin .Add (mint) (fcall (F .F_law_draw) rm rfl (U.mgf .F_law_draw) (U.fn .F_law_draw).kp (U.bind .F_law_draw) (acons (mvar 0) (acons (mint) (anil)))))) (gname 5 sc__law_some_book.nd) (scons (sset 6 sc__law_some_book.nd (fcall (F .F_law_some_test) rm rfl (U.mgf .F_law_some_test) (U.fn .F_law_some_test).kp (U.bind .F_law_some_test) (acons (mvar 0) (acons (fcall (F .F_law_pick) rm rfl (U.mgf .F_law_pick) (U.fn .F_law_pick).kp (U.bind .F_law_pick) (acons (mvar 0) (acons (mlst (acons (mstr) (acons (mstr) (anil)))) (anil)))) (anil))))) (sone (sset 3 sc__law_some_book.nd (mbin .Add (mvar 3) (mif (mtcmp (o_nin rm.u65) (mvar 6) (mvar 3)) (mlst (acons (mvar 6) (anil))) (mlst (anil)))))))) (scons (sfor L PassesOwn.never rfl (iover (mvar 2)) (gname 7 sc__law_some_book.nd) (sone (sasg (mcallT (call_tupleM) rfl U.n_tuple bt_tuple (acons (mlc L [("lap", 5)] rfl sc__law_some_book.nd (irange1 rfl U.n_range (fcall (F .F_law_pick) rm rfl (U.mgf .F_law_pick) (U.fn .F_law_pick).kp (U.bind .F_law_pick) (acons (mvar 0) (acons (mlst (acons (mint) (acons (mint) (acons (mint) (acons (mint) (acons (mint) (acons (mint) (anil)))))))) (anil))))) rfl (fun _ _ _ _ _ => wname 5 sc__law_some_book.nd) (fun _ _ _ _ _ => ptsnil) (fun _ _ _ _ _ => fcall (F .F_law_some_case) rm rfl (U.mgf .F_law_some_case) (U.fn .F_law_some_case).kp (U.bind .F_law_some_case) (acons (mvar 0) (acons (mvar 2) (acons (mvar 3) (anil)))))) (anil))) (gsub rm.u1 (mvar 4) (mvar 7))))) (sone (sret (mvar 4))))))
theorem ok__law_names (U : Txt K w mg ad fd) (U2 : Kds K w mg d_PARTS) (F : ∀ f, FnM T P w K mg base (k + 2) (ad f) (fd f) f.ps (g f)) (cdv : Value) (A : Around) (out : List Env) (s : Shared) (H : Hp) (rm : Rm (k + 2) (A.deeper (PyProof.Rows.envOfC "_law_names" (defScope (top 68)) s.heap.objs.size (ad .F_law_names) cdv))) :
    PSs (cxOf CX0 P w K mg base (Fn.ns .F_law_names) "_law_names" (defScope (top 68)) (ad .F_law_names) cdv A out s H E0).nox (defBody (top 68)) (sM T K (b__law_names L g)) :=
  sone (sret (mlc L [("nth", 1)] rfl sc__law_names.nd (irange1 rfl U.n_range (mvar 0)) rfl (fun _ _ _ _ _ => wname 1 sc__law_names.nd) (fun _ _ _ _ _ => ptsnil) (fun _ _ _ _ _ => mbin .Add (mstr) (mix rm.u1 (mstr) (mvar 1)))))
theorem ok__law_wide (U : Txt K w mg ad fd) (U2 : Kds K w mg d_PARTS) (F : ∀ f, FnM T P w K mg base (k + 2) (ad f) (fd f) f.ps (g f)) (cdv : Value) (A : Around) (out : List Env) (s : Shared) (H : Hp) (rm : Rm (k + 2) (A.deeper (PyProof.Rows.envOfC "_law_wide" (defScope (top 69)) s.heap.objs.size (ad .F_law_wide) cdv))) :
    PSs (cxOf CX0 P w K mg base (Fn.ns .F_law_wide) "_law_wide" (defScope (top 69)) (ad .F_law_wide) cdv A out s H E0).nox (defBody (top 69)) (sM T K (b__law_wide L g)) :=
  scons (sif (mtcmp (o_eq rm.u64) (mvar 0) (mint)) (sone (sret (mcallT (call_dictEM rfl) rfl U.n_dict bt_dict (acons (mlc L [("name", 6)] rfl sc__law_wide.nd (iover (fcall (F .F_law_names) rm rfl (U.mgf .F_law_names) (U.fn .F_law_names).kp (U.bind .F_law_names) (acons (mvar 1) (anil)))) rfl (fun _ _ _ _ _ => wname 6 sc__law_wide.nd) (fun _ _ _ _ _ => ptsnil) (fun _ _ _ _ _ => mtup (acons (mvar 6) (acons (mtup (anil)) (anil))))) (anil))))) (snil)) (scons (sif (mtcmp (o_eq rm.u64) (mvar 0) (mint)) (sone (sret (mdisp (prs := (opD mulE (cD (.str "a")) (varD 1), tupD (consA (tupD (consA (cD (.str "null")) (nilA))) (nilA))) :: []) (dcons (mmul (mstr) (mvar 1)) (mtup (acons (mtup (acons (mstr) (anil))) (anil))) (dnil))))) (snil)) (scons (sif (mtcmp (o_eq rm.u64) (mvar 0) (mint)) (sone (sret (mdisp (prs := (cD (.str "a"), opD (binD .Mult) (tupD (consA (tupD (consA (cD (.str "null")) (nilA))) (nilA))) (varD 1)) :: []) (dcons (mstr) (mbin .Mult (mtup (acons (mtup (acons (mstr) (anil))) (anil))) (mvar 1)) (dnil))))) (snil)) (scons (sif (mtcmp (o_eq rm.u64) (mvar 0) (mint)) (sone (sret (mdisp (prs := (cD (.str "a"), tupD (consA (tupD (consA (cD (.str "object")) (consA (callD (on1 tupleD) (consA (lcD L [5] (rng1S (varD 1)) (nameG 5) (yesT) (tupD (consA (tupD (consA (varD 5) (nilA))) (consA (cD (.str "a")) (consA (cD (.str "asked")) (nilA)))))) (nilA))) (consA (cD .non) (nilA))))) (nilA))) :: []) (dcons (mstr) (mtup (acons (mtup (acons (mstr) (acons (mcallT (call_tupleM) rfl U.n_tuple bt_tuple (acons (mlc L [("nth", 5)] rfl sc__law_wide.nd (irange1 rfl U.n_range (mvar 1)) rfl (fun _ _ _ _ _ => wname 5 sc__law_wide.nd) (fun _ _ _ _ _ => ptsnil) (fun _ _ _ _ _ => mtup (acons (mtup (acons (mvar 5) (anil))) (acons (mstr) (acons (mstr) (anil)))))) (anil))) (acons (mnon) (anil))))) (anil))) (dnil))))) (snil)) (scons (sif (mtcmp (o_eq rm.u64) (mvar 0) (mint)) (sone (sret (mdisp (prs := (cD (.str "a"), tupD (consA (tupD (consA (cD (.str "number")) (consA (callD (on1 tupleD) (consA (lcD L [5] (rng1S (varD 1)) (nameG 5) (yesT) (tupD (consA (cD (.str "<")) (consA (callD (g .F_law_number) (consA (varD 5) (consA (cD (.int 0)) (nilA)))) (nilA))))) (nilA))) (nilA)))) (nilA))) :: []) (dcons (mstr) (mtup (acons (mtup (acons (mstr) (acons (mcallT (call_tupleM) rfl U.n_tuple bt_tuple (acons (mlc L [("nth", 5)] rfl sc__law_wide.nd (irange1 rfl U.n_range (mvar 1)) rfl (fun _ _ _ _ _ => wname 5 sc__law_wide.nd) (fun _ _ _ _ _ => ptsnil) (fun _ _ _ _ _ => mtup (acons (mstr) (acons (fcall (F .F_law_number) rm rfl (U.mgf .F_law_number) (U.fn .F_law_number).kp (U.bind .F_law_number) (acons (mvar 5) (acons (mint) (anil)))) (anil))))) (anil))) (anil)))) (anil))) (dnil))))) (snil)) (scons (sif (mtcmp (o_eq rm.u64) (mvar 0) (mint)) (scons (ssetLc 2 L [("nth", 5)] rfl sc__law_wide.nd (irange1 rfl U.n_range (mvar 1)) rfl (fun _ _ _ _ _ => wname 5 sc__law_wide.nd) (fun _ _ _ _ _ => ptsnil) (fun _ _ _ _ _ => mtup (acons (mtup (acons (mvar 5) (anil))) (acons (mstr) (acons (mstr) (anil)))))) (sone (sret (mdisp (prs := (cD (.str "a"), tupD (consA (tupD (consA (cD (.str "object")) (consA (callD (on1 tupleD) (consA (sliD (varD 2) (.no) (.at (cD (.int 3)))) (nilA))) (consA (cD (.str "a")) (nilA))))) (consA (tupD (consA (cD (.str "object")) (consA (callD (on1 tupleD) (consA (sliD (varD 2) (.at (cD (.int 3))) (.no)) (nilA))) (consA (cD .non) (nilA))))) (nilA)))) :: []) (dcons (mstr) (mtup (acons (mtup (acons (mstr) (acons (mcallT (call_tupleM) rfl U.n_tuple bt_tuple (acons (mslice (mvar 2) (ponone) (posome (mint))) (anil))) (acons (mstr) (anil))))) (acons (mtup (acons (mstr) (acons (mcallT (call_tupleM) rfl U.n_tuple bt_tuple (acons (mslice (mvar 2) (posome (mint)) (ponone)) (anil))) (acons (mnon) (anil))))) (anil)))) (dnil)))))) (snil)) (scons (sif (mtcmp (o_eq rm.u64) (mvar 0) (mint)) (sone (sret (mdisp (prs := (cD (.str "a"), tupD (consA (tupD (consA (cD (.str "array")) (consA (callD (g .F_law_balanced) (consA (varD 1) (nilA))) (nilA)))) (nilA))) :: []) (dcons (mstr) (mtup (acons (mtup (acons (mstr) (acons (fcall (F .F_law_balanced) rm rfl (U.mgf .F_law_balanced) (U.fn .F_law_balanced).kp (U.bind .F_law_balanced) (acons (mvar 1) (anil))) (anil)))) (anil))) (dnil))))) (snil)) (scons (sset 3 sc__law_wide.nd (mtup (acons (mstr) (acons (mstr) (anil))))) (scons (sfor L PassesOwn.never rfl (irange1 rfl U.n_range (mbin .Sub (mvar 1) (mint))) (gname 4 sc__law_wide.nd) (sone (sset 3 sc__law_wide.nd (mtup (acons (mstr) (acons (mvar 3) (anil))))))) (sone (sret (mdisp (prs := (cD (.str "a"), tupD (consA (tupD (consA (cD (.str "array")) (consA (varD 3) (nilA)))) (nilA))) :: []) (dcons (mstr) (mtup (acons (mtup (acons (mstr) (acons (mvar 3) (anil)))) (anil))) (dnil)))))))))))))
theorem ok__law_balanced (U : Txt K w mg ad fd) (U2 : Kds K w mg d_PARTS) (F : ∀ f, FnM T P w K mg base (k + 2) (ad f) (fd f) f.ps (g f)) (cdv : Value) (A : Around) (out : List Env) (s : Shared) (H : Hp) (rm : Rm (k + 2) (A.deeper (PyProof.Rows.envOfC "_law_balanced" (defScope (top 70)) s.heap.objs.size (ad .F_law_balanced) cdv))) :
    PSs (cxOf CX0 P w K mg base (Fn.ns .F_law_balanced) "_law_balanced" (defScope (top 70)) (ad .F_law_balanced) cdv A out s H E0).nox (defBody (top 70)) (sM T K (b__law_balanced L g)) :=
  scons (sif (mtcmp (o_eq rm.u64) (mvar 0) (mint)) (sone (sret (mtup (acons (mstr) (acons (mstr) (anil)))))) (snil)) (sone (sret (mtup (acons (mstr) (acons (fcall (F .F_law_balanced) rm rfl (U.mgf .F_law_balanced) (U.fn .F_law_balanced).kp (U.bind .F_law_balanced) (acons (mbin .FloorDiv (mvar 0) (mint)) (anil))) (acons (fcall (F .F_law_balanced) rm rfl (U.mgf .F_law_balanced) (U.fn .F_law_balanced).kp (U.bind .F_law_balanced) (acons (mbin .Sub (mvar 0) (mbin .FloorDiv (mvar 0) (mint))) (anil))) (anil)))))))
theorem ok__law_some_bent (U : Txt K w mg ad fd) (U2 : Kds K w mg d_PARTS) (F : ∀ f, FnM T P w K mg base (k + 2) (ad f) (fd f) f.ps (g f)) (cdv : Value) (A : Around) (out : List Env) (s : Shared) (H : Hp) (rm : Rm (k + 2) (A.deeper (PyProof.Rows.envOfC "_law_some_bent" (defScope (top 71)) s.heap.objs.size (ad .F_law_some_bent) cdv))) :
    PSs (cxOf CX0 P w K mg base (Fn.ns .F_law_some_bent) "_law_some_bent" (defScope (top 71)) (ad .F_law_some_bent) cdv A out s H E0).nox (defBody (top 71)) (sM T K (b__law_some_bent L g)) :=
  scons (sset 2 sc__law_some_bent.nd (fcall (F .F_law_pick) rm rfl (U.mgf .F_law_pick) (U.fn .F_law_pick).kp (U.bind .F_law_pick) (acons (mvar 0) (acons (mcallB (call_sdicI rfl) rfl U.n_sorted bt_sorted (acons (mvar 1) (anil))) (anil))))) (scons (sset 3 sc__law_some_bent.nd (mix rm.u1 (mvar 1) (mvar 2))) (scons (sset 4 sc__law_some_bent.nd (fcall (F .F_law_pick) rm rfl (U.mgf .F_law_pick) (U.fn .F_law_pick).kp (U.bind .F_law_pick) (acons (mvar 0) (acons (mlst (acons (mnon) (acons (mtup (anil)) (acons (mtup (acons (mstr) (anil))) (acons (mtup (acons (mstr) (acons (mint) (anil)))) (acons (mtup (acons (mstr) (anil))) (acons (mtup (acons (mstr) (acons (mlst (acons (mtup (acons (mstr) (acons (mtup (acons (mstr) (acons (mint) (acons (mint) (anil))))) (anil)))) (anil))) (anil)))) (acons (mtup (acons (mstr) (acons (mtup (acons (mtup (acons (mstr) (acons (mtup (acons (mstr) (acons (mtup (anil)) (anil)))) (anil)))) (anil))) (anil)))) (acons (mtup (acons (mstr) (acons (mtup (acons (mtup (acons (mstr) (acons (mtup (acons (mstr) (acons (mint) (acons (mint) (anil))))) (anil)))) (anil))) (anil)))) (acons (mtup (acons (mstr) (anil))) (acons (mlst (acons (mstr) (anil))) (acons (mtup (acons (mstr) (acons (mtup (acons (mstr) (acons (mstr) (anil)))) (anil)))) (acons (mtup (acons (mstr) (acons (mtup (anil)) (acons (mstr) (anil))))) (acons (mtup (acons (mstr) (acons (mtup (acons (mtup (acons (mtup (acons (mint) (anil))) (acons (mvar 2) (acons (mstr) (anil))))) (anil))) (acons (mnon) (anil))))) (acons (mtup (acons (mstr) (acons (mtup (acons (mtup (acons (mtup (acons (mint) (anil))) (acons (mvar 2) (anil)))) (anil))) (acons (mnon) (anil))))) (acons (mtup (acons (mstr) (acons (mtup (acons (mtup (acons (mtup (acons (mint) (anil))) (acons (mvar 2) (acons (mstr) (anil))))) (acons (mtup (acons (mtup (acons (mint) (anil))) (acons (mvar 2) (acons (mstr) (anil))))) (anil)))) (acons (mnon) (anil))))) (acons (mtup (acons (mstr) (acons (mtup (acons (mlst (acons (mint) (anil))) (acons (mvar 2) (acons (mstr) (anil))))) (acons (mnon) (anil))))) (acons (mtup (acons (mstr) (acons (mtup (anil)) (acons (mnon) (acons (mnon) (anil)))))) (acons (mtup (acons (mstr) (acons (mtup (anil)) (anil)))) (anil)))))))))))))))))))) (anil))))) (scons (sset 5 sc__law_some_bent.nd (mlst (acons (mtup (acons (mvar 2) (acons (mbin .Add (mvar 3) (mtup (acons (mvar 4) (anil)))) (anil)))) (acons (mtup (acons (mvar 2) (acons (mcallT (call_listEM rfl) rfl U.n_list bt_list (acons (mvar 3) (anil))) (anil)))) (acons (mtup (acons (mint) (acons (mtup (anil)) (anil)))) (acons (mtup (acons (mstr) (acons (mtup (anil)) (anil)))) (acons (mtup (acons (mstr) (acons (mtup (anil)) (anil)))) (acons (mtup (acons (mvar 2) (acons (mnon) (anil)))) (anil))))))))) (scons (sset 6 sc__law_some_bent.nd (mcallT (call_dictEM rfl) rfl U.n_dict bt_dict (acons (mvar 1) (anil)))) (scons (sasg (fcall (F .F_law_pick) rm rfl (U.mgf .F_law_pick) (U.fn .F_law_pick).kp (U.bind .F_law_pick) (acons (mvar 0) (acons (mvar 5) (anil)))) (gtup rfl (gcons (gname 7 sc__law_some_bent.nd) (gcons (gname 8 sc__law_some_bent.nd) (gnil))))) (scons (sasg (mvar 8) (gsub rm.u1 (mvar 6) (mvar 7))) (sone (sret (fcall (F .F_law_pick) rm rfl (U.mgf .F_law_pick) (U.fn .F_law_pick).kp (U.bind .F_law_pick) (acons (mvar 0) (acons (mlst (acons (mvar 6) (acons (mvar 6) (acons (mvar 6) (acons (mcallT (call_listEM rfl) rfl U.n_list bt_list (acons (mvar 1) (anil))) (acons (mnon) (acons (mvar 2) (acons (mdictK) (anil))))))))) (anil))))))))))))
theorem ok_law (U : Txt K w mg ad fd) (U2 : Kds K w mg d_PARTS) (F : ∀ f, FnM T P w K mg base (k + 2) (ad f) (fd f) f.ps (g f)) (cdv : Value) (A : Around) (out : List Env) (s : Shared) (H : Hp) (rm : Rm (k + 2) (A.deeper (PyProof.Rows.envOfC "law" (defScope (top 72)) s.heap.objs.size (ad .Flaw) cdv))) :
    PSs (cxOf CX0 P w K mg base (Fn.ns .Flaw) "law" (defScope (top 72)) (ad .Flaw) cdv A out s H E0).nox (defBody (top 72)) (sM T K (b_law L g)) :=
  scons (sset 1 sc_law.nd (fcall (F .F_law_begun) rm rfl (U.mgf .F_law_begun) (U.fn .F_law_begun).kp (U.bind .F_law_begun) (acons (mvar 0) (anil)))) (scons (sfor L PassesOwn.never rfl (iover (mlst (acons (mtup (acons (mint) (acons (mint) (anil)))) (acons (mtup (acons (mint) (acons (mint) (anil)))) (acons (mtup (acons (mint) (acons (mint) (anil)))) (acons (mtup (acons (mint) (acons (mint) (anil)))) (acons (mtup (acons (mint) (acons (mint) (anil)))) (acons (mtup (acons (mint) (acons (mint) (anil)))) (acons (mtup (acons (mint) (acons (mint) (anil)))) (acons (mtup (acons (mint) (acons (mint) (anil)))) (anil))))))))))) (gtup rfl (gcons (gname 2 sc_law.nd) (gcons (gname 3 sc_law.nd) (gnil)))) (scons (sif (PW.pt (mtor (mtcmp (o_isn) (fcall (F .Fis_book) rm rfl (U.mgf .Fis_book) (U.fn .Fis_book).kp (U.bind .Fis_book) (acons (fcall (F .F_law_wide) rm rfl (U.mgf .F_law_wide) (U.fn .F_law_wide).kp (U.bind .F_law_wide) (acons (mvar 2) (acons (mvar 3) (anil)))) (anil))) (mbl)) (mtor1 (mtcmp (o_isn) (fcall (F .Fis_book) rm rfl (U.mgf .Fis_book) (U.fn .Fis_book).kp (U.bind .Fis_book) (acons (fcall (F .F_law_wide) rm rfl (U.mgf .F_law_wide) (U.fn .F_law_wide).kp (U.bind .F_law_wide) (acons (mvar 2) (acons (mbin .Add (mvar 3) (mint)) (anil)))) (anil))) (mbl))))) (sone (sret (mbl))) (snil)) (sone (sif (PW.pt (mtor (PW.pt (mtand (mtcmp (o_eq rm.u64) (mvar 2) (mint)) (mtand1 (mtcmp (o_ne rm.u64) (mcallB (call_lenM) rfl U.n_len bt_len (acons (fcall (F .Ftests_of) rm rfl (U.mgf .Ftests_of) (U.fn .Ftests_of).kp (U.bind .Ftests_of) (acons (fcall (F .F_law_wide) rm rfl (U.mgf .F_law_wide) (U.fn .F_law_wide).kp (U.bind .F_law_wide) (acons (mvar 2) (acons (mvar 3) (anil)))) (anil))) (anil))) (mint))))) (mtor1 (PW.pt (mtand (mtcmp (o_eq rm.u64) (mvar 2) (mint)) (mtand1 (mtcmp (o_ne rm.u64) (mcallB (call_lenM) rfl U.n_len bt_len (acons (fcall (F .Fknown_of) rm rfl (U.mgf .Fknown_of) (U.fn .Fknown_of).kp (U.bind .Fknown_of) (acons (fcall (F .F_law_wide) rm rfl (U.mgf .F_law_wide) (U.fn .F_law_wide).kp (U.bind .F_law_wide) (acons (mvar 2) (acons (mvar 3) (anil)))) (anil))) (anil))) (mint)))))))) (sone (sret (mbl))) (snil))))) (scons (spar 4 5 rfl sc_law.nd (acons (mtup (acons (mstr) (acons (mtup (acons (mstr) (acons (mint) (acons (mint) (anil))))) (anil)))) (acons (mlc L [("nth", 8)] rfl sc_law.nd (irange1 rfl U.n_range (mint)) rfl (fun _ _ _ _ _ => wname 8 sc_law.nd) (fun _ _ _ _ _ => ptsnil) (fun _ _ _ _ _ => mtup (acons (mtup (acons (mvar 8) (anil))) (acons (mstr) (acons (mstr) (anil)))))) (anil)))) (scons (sif (mtcmp (o_isn) (fcall (F .Fis_book) rm rfl (U.mgf .Fis_book) (U.fn .Fis_book).kp (U.bind .Fis_book) (acons (mdisp (prs := (cD (.str "a"), tupD (consA (tupD (consA (cD (.str "number")) (consA (opD (binD .Mult) (tupD (consA (varD 4) (nilA))) (cD (.int 9))) (nilA)))) (consA (tupD (consA (cD (.str "number")) (consA (tupD (consA (varD 4) (nilA))) (nilA)))) (consA (tupD (consA (cD (.str "object")) (consA (callD (on1 tupleD) (consA (varD 5) (nilA))) (consA (cD .non) (nilA))))) (consA (tupD (consA (cD (.str "object")) (consA (callD (on1 tupleD) (consA (revD (varD 5)) (nilA))) (consA (cD (.str "a")) (nilA))))) (nilA)))))) :: []) (dcons (mstr) (mtup (acons (mtup (acons (mstr) (acons (mbin .Mult (mtup (acons (mvar 4) (anil))) (mint)) (anil)))) (acons (mtup (acons (mstr) (acons (mtup (acons (mvar 4) (anil))) (anil)))) (acons (mtup (acons (mstr) (acons (mcallT (call_tupleM) rfl U.n_tuple bt_tuple (acons (mvar 5) (anil))) (acons (mnon) (anil))))) (acons (mtup (acons (mstr) (acons (mcallT (call_tupleM) rfl U.n_tuple bt_tuple (acons (mrev (mvar 5)) (anil))) (acons (mstr) (anil))))) (anil)))))) (dnil))) (anil))) (mbl)) (sone (sret (mbl))) (snil)) (scons (sfor L PassesOwn.never rfl (irange1 rfl U.n_range (mint)) (gname 6 sc_law.nd) (scons (sset 7 sc_law.nd (fcall (F .F_law_some_book) rm rfl (U.mgf .F_law_some_book) (U.fn .F_law_some_book).kp (U.bind .F_law_some_book) (acons (mvar 1) (acons (mint) (anil))))) (sone (sif (PW.pt (mtor (mtcmp (o_isn) (fcall (F .Fis_book) rm rfl (U.mgf .Fis_book) (U.fn .Fis_book).kp (U.bind .Fis_book) (acons (mvar 7) (anil))) (mbl)) (mtor (mtcmp (o_isn) (fcallKw (F .Fis_book) rm rfl (U.mgf .Fis_book) (U.fn .Fis_book).kp U.kw_is_book ord_same (kcons (mvar 7) (knil))) (mbl)) (mtor1 (mtcmp (o_isn) (fcall (F .Fis_book) rm rfl (U.mgf .Fis_book) (U.fn .Fis_book).kp (U.bind .Fis_book) (acons (fcall (F .F_law_some_bent) rm rfl (U.mgf .F_law_some_bent) (U.fn .F_law_some_bent).kp (U.bind .F_law_some_bent) (acons (mvar 1) (acons (mvar 7) (anil)))) (anil))) (mbl)))))) (sone (sret (mbl))) (snil))))) (sone (sret (mcmp (o_is) (fcall (F .Fis_book) rm rfl (U.mgf .Fis_book) (U.fn .Fis_book).kp (U.bind .Fis_book) (acons (mcallT (call_dictEM rfl) rfl U.n_dict bt_dict (acons (mlc L [("name", 9)] rfl sc_law.nd (iover (mrev (fcall (F .F_law_names) rm rfl (U.mgf .F_law_names) (U.fn .F_law_names).kp (U.bind .F_law_names) (acons (mint) (anil))))) rfl (fun _ _ _ _ _ => wname 9 sc_law.nd) (fun _ _ _ _ _ => ptsnil) (fun _ _ _ _ _ => mtup (acons (mvar 9) (acons (mtup (anil)) (anil))))) (anil))) (anil))) (mbl))))))))
end
end K37


namespace K37
open PySem PySem.Spec L2 Mx
section
variable {T : List (Addr × Str)} {P : Program} {w : World} {K : PySem.W.Frag} {mg : Str → Option Value} {base : Heap} {ad : Fn → Addr} {fd : Fn → FuncData} {L : Nat} {d_PARTS : Addr}
theorem all_ok (U : Txt K w mg ad fd) (U2 : Kds K w mg d_PARTS) : ∀ (k : Nat) (f : Fn), FnM T P w K mg base (k + 2) (ad f) (fd f) f.ps (tab L k f)
  | 0, f => ⟨fun as st r h => (by cases h), fun A out s H args us vs Q r e b v h => (by
    obtain ⟨ρ, st, as, d, st2, R, h1, h2, _⟩ := h
    cases h2)⟩
  | k + 1, .Fis_whole => FnM.of (U.fn .Fis_whole) sc_is_whole fun cdv A out s H rm => ok_is_whole U U2 (all_ok U U2 k) cdv A out s H rm
  | k + 1, .Fis_decimal => FnM.of (U.fn .Fis_decimal) sc_is_decimal fun cdv A out s H rm => ok_is_decimal U U2 (all_ok U U2 k) cdv A out s H rm
  | k + 1, .Fis_high => FnM.of (U.fn .Fis_high) sc_is_high fun cdv A out s H rm => ok_is_high U U2 (all_ok U U2 k) cdv A out s H rm
  | k + 1, .Fis_low => FnM.of (U.fn .Fis_low) sc_is_low fun cdv A out s H rm => ok_is_low U U2 (all_ok U U2 k) cdv A out s H rm
  | k + 1, .Fis_point => FnM.of (U.fn .Fis_point) sc_is_point fun cdv A out s H rm => ok_is_point U U2 (all_ok U U2 k) cdv A out s H rm
  | k + 1, .Fis_points => FnM.of (U.fn .Fis_points) sc_is_points fun cdv A out s H rm => ok_is_points U U2 (all_ok U U2 k) cdv A out s H rm
  | k + 1, .Fare_items => FnM.of (U.fn .Fare_items) sc_are_items fun cdv A out s H rm => ok_are_items U U2 (all_ok U U2 k) cdv A out s H rm
  | k + 1, .Fare_members => FnM.of (U.fn .Fare_members) sc_are_members fun cdv A out s H rm => ok_are_members U U2 (all_ok U U2 k) cdv A out s H rm
  | k + 1, .Fis_value_within => FnM.of (U.fn .Fis_value_within) sc_is_value_within fun cdv A out s H rm => ok_is_value_within U U2 (all_ok U U2 k) cdv A out s H rm
  | k + 1, .Fis_value => FnM.of (U.fn .Fis_value) sc_is_value fun cdv A out s H rm => ok_is_value U U2 (all_ok U U2 k) cdv A out s H rm
  | k + 1, .Fis_test => FnM.of (U.fn .Fis_test) sc_is_test fun cdv A out s H rm => ok_is_test U U2 (all_ok U U2 k) cdv A out s H rm
  | k + 1, .Fis_pattern_within => FnM.of (U.fn .Fis_pattern_within) sc_is_pattern_within fun cdv A out s H rm => ok_is_pattern_within U U2 (all_ok U U2 k) cdv A out s H rm
  | k + 1, .Fis_pattern => FnM.of (U.fn .Fis_pattern) sc_is_pattern fun cdv A out s H rm => ok_is_pattern U U2 (all_ok U U2 k) cdv A out s H rm
  | k + 1, .Fplaces_of => FnM.of (U.fn .Fplaces_of) sc_places_of fun cdv A out s H rm => ok_places_of U U2 (all_ok U U2 k) cdv A out s H rm
  | k + 1, .Fis_type_name => FnM.of (U.fn .Fis_type_name) sc_is_type_name fun cdv A out s H rm => ok_is_type_name U U2 (all_ok U U2 k) cdv A out s H rm
  | k + 1, .Fare_tests_of => FnM.of (U.fn .Fare_tests_of) sc_are_tests_of fun cdv A out s H rm => ok_are_tests_of U U2 (all_ok U U2 k) cdv A out s H rm
  | k + 1, .Fare_triples => FnM.of (U.fn .Fare_triples) sc_are_triples fun cdv A out s H rm => ok_are_triples U U2 (all_ok U U2 k) cdv A out s H rm
  | k + 1, .Fis_case => FnM.of (U.fn .Fis_case) sc_is_case fun cdv A out s H rm => ok_is_case U U2 (all_ok U U2 k) cdv A out s H rm
  | k + 1, .Fcases_in => FnM.of (U.fn .Fcases_in) sc_cases_in fun cdv A out s H rm => ok_cases_in U U2 (all_ok U U2 k) cdv A out s H rm
  | k + 1, .Ftests_in => FnM.of (U.fn .Ftests_in) sc_tests_in fun cdv A out s H rm => ok_tests_in U U2 (all_ok U U2 k) cdv A out s H rm
  | k + 1, .Fpoints_in => FnM.of (U.fn .Fpoints_in) sc_points_in fun cdv A out s H rm => ok_points_in U U2 (all_ok U U2 k) cdv A out s H rm
  | k + 1, .Fis_book => FnM.of (U.fn .Fis_book) sc_is_book fun cdv A out s H rm => ok_is_book U U2 (all_ok U U2 k) cdv A out s H rm
  | k + 1, .Fneed_book => FnM.of (U.fn .Fneed_book) sc_need_book fun cdv A out s H rm => ok_need_book U U2 (all_ok U U2 k) cdv A out s H rm
  | k + 1, .Ftests_of => FnM.of (U.fn .Ftests_of) sc_tests_of fun cdv A out s H rm => ok_tests_of U U2 (all_ok U U2 k) cdv A out s H rm
  | k + 1, .Fknown_of => FnM.of (U.fn .Fknown_of) sc_known_of fun cdv A out s H rm => ok_known_of U U2 (all_ok U U2 k) cdv A out s H rm
  | k + 1, .F_law_begun => FnM.of (U.fn .F_law_begun) sc__law_begun fun cdv A out s H rm => ok__law_begun U U2 (all_ok U U2 k) cdv A out s H rm
  | k + 1, .F_law_mixed => FnM.of (U.fn .F_law_mixed) sc__law_mixed fun cdv A out s H rm => ok__law_mixed U U2 (all_ok U U2 k) cdv A out s H rm
  | k + 1, .F_law_draw => FnM.of (U.fn .F_law_draw) sc__law_draw fun cdv A out s H rm => ok__law_draw U U2 (all_ok U U2 k) cdv A out s H rm
  | k + 1, .F_law_pick => FnM.of (U.fn .F_law_pick) sc__law_pick fun cdv A out s H rm => ok__law_pick U U2 (all_ok U U2 k) cdv A out s H rm
  | k + 1, .F_law_shuffled => FnM.of (U.fn .F_law_shuffled) sc__law_shuffled fun cdv A out s H rm => ok__law_shuffled U U2 (all_ok U U2 k) cdv A out s H rm
  | k + 1, .F_law_number => FnM.of (U.fn .F_law_number) sc__law_number fun cdv A out s H rm => ok__law_number U U2 (all_ok U U2 k) cdv A out s H rm
  | k + 1, .F_law_some_test => FnM.of (U.fn .F_law_some_test) sc__law_some_test fun cdv A out s H rm => ok__law_some_test U U2 (all_ok U U2 k) cdv A out s H rm
  | k + 1, .F_law_some_pattern => FnM.of (U.fn .F_law_some_pattern) sc__law_some_pattern fun cdv A out s H rm => ok__law_some_pattern U U2 (all_ok U U2 k) cdv A out s H rm
  | k + 1, .F_law_some_points => FnM.of (U.fn .F_law_some_points) sc__law_some_points fun cdv A out s H rm => ok__law_some_points U U2 (all_ok U U2 k) cdv A out s H rm
  | k + 1, .F_law_some_members => FnM.of (U.fn .F_law_some_members) sc__law_some_members fun cdv A out s H rm => ok__law_some_members U U2 (all_ok U U2 k) cdv A out s H rm
  | k + 1, .F_law_some_case => FnM.of (U.fn .F_law_some_case) sc__law_some_case fun cdv A out s H rm => ok__law_some_case U U2 (all_ok U U2 k) cdv A out s H rm
  | k + 1, .F_law_some_book => FnM.of (U.fn .F_law_some_book) sc__law_some_book fun cdv A out s H rm => ok__law_some_book U U2 (all_ok U U2 k) cdv A out s H rm
  | k + 1, .F_law_names => FnM.of (U.fn .F_law_names) sc__law_names fun cdv A out s H rm => ok__law_names U U2 (all_ok U U2 k) cdv A out s H rm
  | k + 1, .F_law_wide => FnM.of (U.fn .F_law_wide) sc__law_wide fun cdv A out s H rm => ok__law_wide U U2 (all_ok U U2 k) cdv A out s H rm
  | k + 1, .F_law_balanced => FnM.of (U.fn .F_law_balanced) sc__law_balanced fun cdv A out s H rm => ok__law_balanced U U2 (all_ok U U2 k) cdv A out s H rm
  | k + 1, .F_law_some_bent => FnM.of (U.fn .F_law_some_bent) sc__law_some_bent fun cdv A out s H rm => ok__law_some_bent U U2 (all_ok U U2 k) cdv A out s H rm
  | k + 1, .Flaw => FnM.of (U.fn .Flaw) sc_law fun cdv A out s H rm => ok_law U U2 (all_ok U U2 k) cdv A out s H rm
end
def adOf (f_is_whole f_is_decimal f_is_high f_is_low f_is_point f_is_points f_are_items f_are_members f_is_value_within f_is_value f_is_test f_is_pattern_within f_is_pattern f_places_of f_is_type_name f_are_tests_of f_are_triples f_is_case f_cases_in f_tests_in f_points_in f_is_book f_need_book f_tests_of f_known_of f__law_begun f__law_mixed f__law_draw f__law_pick f__law_shuffled f__law_number f__law_some_test f__law_some_pattern f__law_some_points f__law_some_members f__law_some_case f__law_some_book f__law_names f__law_wide f__law_balanced f__law_some_bent f_law : Addr) : Fn → Addr
  | .Fis_whole => f_is_whole
  | .Fis_decimal => f_is_decimal
  | .Fis_high => f_is_high
  | .Fis_low => f_is_low
  | .Fis_point => f_is_point
  | .Fis_points => f_is_points
  | .Fare_items => f_are_items
  | .Fare_members => f_are_members
  | .Fis_value_within => f_is_value_within
  | .Fis_value => f_is_value
  | .Fis_test => f_is_test
  | .Fis_pattern_within => f_is_pattern_within
  | .Fis_pattern => f_is_pattern
  | .Fplaces_of => f_places_of
  | .Fis_type_name => f_is_type_name
  | .Fare_tests_of => f_are_tests_of
  | .Fare_triples => f_are_triples
  | .Fis_case => f_is_case
  | .Fcases_in => f_cases_in
  | .Ftests_in => f_tests_in
  | .Fpoints_in => f_points_in
  | .Fis_book => f_is_book
  | .Fneed_book => f_need_book
  | .Ftests_of => f_tests_of
  | .Fknown_of => f_known_of
  | .F_law_begun => f__law_begun
  | .F_law_mixed => f__law_mixed
  | .F_law_draw => f__law_draw
  | .F_law_pick => f__law_pick
  | .F_law_shuffled => f__law_shuffled
  | .F_law_number => f__law_number
  | .F_law_some_test => f__law_some_test
  | .F_law_some_pattern => f__law_some_pattern
  | .F_law_some_points => f__law_some_points
  | .F_law_some_members => f__law_some_members
  | .F_law_some_case => f__law_some_case
  | .F_law_some_book => f__law_some_book
  | .F_law_names => f__law_names
  | .F_law_wide => f__law_wide
  | .F_law_balanced => f__law_balanced
  | .F_law_some_bent => f__law_some_bent
  | .Flaw => f_law
def fdOf (f_is_whole f_is_decimal f_is_high f_is_low f_is_point f_is_points f_are_items f_are_members f_is_value_within f_is_value f_is_test f_is_pattern_within f_is_pattern f_places_of f_is_type_name f_are_tests_of f_are_triples f_is_case f_cases_in f_tests_in f_points_in f_is_book f_need_book f_tests_of f_known_of f__law_begun f__law_mixed f__law_draw f__law_pick f__law_shuffled f__law_number f__law_some_test f__law_some_pattern f__law_some_points f__law_some_members f__law_some_case f__law_some_book f__law_names f__law_wide f__law_balanced f__law_some_bent f_law : FuncData) : Fn → FuncData
  | .Fis_whole => f_is_whole
  | .Fis_decimal => f_is_decimal
  | .Fis_high => f_is_high
  | .Fis_low => f_is_low
  | .Fis_point => f_is_point
  | .Fis_points => f_is_points
  | .Fare_items => f_are_items
  | .Fare_members => f_are_members
  | .Fis_value_within => f_is_value_within
  | .Fis_value => f_is_value
  | .Fis_test => f_is_test
  | .Fis_pattern_within => f_is_pattern_within
  | .Fis_pattern => f_is_pattern
  | .Fplaces_of => f_places_of
  | .Fis_type_name => f_is_type_name
  | .Fare_tests_of => f_are_tests_of
  | .Fare_triples => f_are_triples
  | .Fis_case => f_is_case
  | .Fcases_in => f_cases_in
  | .Ftests_in => f_tests_in
  | .Fpoints_in => f_points_in
  | .Fis_book => f_is_book
  | .Fneed_book => f_need_book
  | .Ftests_of => f_tests_of
  | .Fknown_of => f_known_of
  | .F_law_begun => f__law_begun
  | .F_law_mixed => f__law_mixed
  | .F_law_draw => f__law_draw
  | .F_law_pick => f__law_pick
  | .F_law_shuffled => f__law_shuffled
  | .F_law_number => f__law_number
  | .F_law_some_test => f__law_some_test
  | .F_law_some_pattern => f__law_some_pattern
  | .F_law_some_points => f__law_some_points
  | .F_law_some_members => f__law_some_members
  | .F_law_some_case => f__law_some_case
  | .F_law_some_book => f__law_some_book
  | .F_law_names => f__law_names
  | .F_law_wide => f__law_wide
  | .F_law_balanced => f__law_balanced
  | .F_law_some_bent => f__law_some_bent
  | .Flaw => f_law
set_option maxHeartbeats 0 in
theorem all_mk {l : PySem.W.OpenLaw} {w : World} {K : PySem.W.Frag} {h : Heap} {mg : Str → Option Value} {fa : Addr} {k L : Nat} (inK : K.In h) (G : h.Ns mainGlobals mg) (hfa : mg "law" = some (.ref fa))
    {f_is_whole : Addr} {od_is_whole an_is_whole : Option Addr} {sl_is_whole : Array (Option Value)} {oc_is_whole kV_is_whole dc_is_whole pm_is_whole ct_is_whole : Value} {cd_is_whole : Value} {f_is_decimal : Addr} {od_is_decimal an_is_decimal : Option Addr} {sl_is_decimal : Array (Option Value)} {oc_is_decimal kV_is_decimal dc_is_decimal pm_is_decimal ct_is_decimal : Value} {cd_is_decimal : Value} {f_is_high : Addr} {od_is_high an_is_high : Option Addr} {sl_is_high : Array (Option Value)} {oc_is_high kV_is_high dc_is_high pm_is_high ct_is_high : Value} {cd_is_high : Value} {f_is_low : Addr} {od_is_low an_is_low : Option Addr} {sl_is_low : Array (Option Value)} {oc_is_low kV_is_low dc_is_low pm_is_low ct_is_low : Value} {cd_is_low : Value} {f_is_point : Addr} {od_is_point an_is_point : Option Addr} {sl_is_point : Array (Option Value)} {oc_is_point kV_is_point dc_is_point pm_is_point ct_is_point : Value} {cd_is_point : Value} {f_is_points : Addr} {od_is_points an_is_points : Option Addr} {sl_is_points : Array (Option Value)} {oc_is_points kV_is_points dc_is_points pm_is_points ct_is_points : Value} {cd_is_points : Value} {f_are_items : Addr} {od_are_items an_are_items : Option Addr} {sl_are_items : Array (Option Value)} {oc_are_items kV_are_items dc_are_items pm_are_items ct_are_items : Value} {cd_are_items : Value} {f_are_members : Addr} {od_are_members an_are_members : Option Addr} {sl_are_members : Array (Option Value)} {oc_are_members kV_are_members dc_are_members pm_are_members ct_are_members : Value} {cd_are_members : Value} {f_is_value_within : Addr} {od_is_value_within an_is_value_within : Option Addr} {sl_is_value_within : Array (Option Value)} {oc_is_value_within kV_is_value_within dc_is_value_within pm_is_value_within ct_is_value_within : Value} {cd_is_value_within : Value} {f_is_value : Addr} {od_is_value an_is_value : Option Addr} {sl_is_value : Array (Option Value)} {oc_is_value kV_is_value dc_is_value pm_is_value ct_is_value : Value} {cd_is_value : Value} {f_is_test : Addr} {od_is_test an_is_test : Option Addr} {sl_is_test : Array (Option Value)} {oc_is_test kV_is_test dc_is_test pm_is_test ct_is_test : Value} {cd_is_test : Value} {f_is_pattern_within : Addr} {od_is_pattern_within an_is_pattern_within : Option Addr} {sl_is_pattern_within : Array (Option Value)} {oc_is_pattern_within kV_is_pattern_within dc_is_pattern_within pm_is_pattern_within ct_is_pattern_within : Value} {cd_is_pattern_within : Value} {f_is_pattern : Addr} {od_is_pattern an_is_pattern : Option Addr} {sl_is_pattern : Array (Option Value)} {oc_is_pattern kV_is_pattern dc_is_pattern pm_is_pattern ct_is_pattern : Value} {cd_is_pattern : Value} {f_places_of : Addr} {od_places_of an_places_of : Option Addr} {sl_places_of : Array (Option Value)} {oc_places_of kV_places_of dc_places_of pm_places_of ct_places_of : Value} {cd_places_of : Value} {f_is_type_name : Addr} {od_is_type_name an_is_type_name : Option Addr} {sl_is_type_name : Array (Option Value)} {oc_is_type_name kV_is_type_name dc_is_type_name pm_is_type_name ct_is_type_name : Value} {cd_is_type_name : Value} {f_are_tests_of : Addr} {od_are_tests_of an_are_tests_of : Option Addr} {sl_are_tests_of : Array (Option Value)} {oc_are_tests_of kV_are_tests_of dc_are_tests_of pm_are_tests_of ct_are_tests_of : Value} {cd_are_tests_of : Value} {f_are_triples : Addr} {od_are_triples an_are_triples : Option Addr} {sl_are_triples : Array (Option Value)} {oc_are_triples kV_are_triples dc_are_triples pm_are_triples ct_are_triples : Value} {cd_are_triples : Value} {f_is_case : Addr} {od_is_case an_is_case : Option Addr} {sl_is_case : Array (Option Value)} {oc_is_case kV_is_case dc_is_case pm_is_case ct_is_case : Value} {cd_is_case : Value} {f_cases_in : Addr} {od_cases_in an_cases_in : Option Addr} {sl_cases_in : Array (Option Value)} {oc_cases_in kV_cases_in dc_cases_in pm_cases_in ct_cases_in : Value} {cd_cases_in : Value} {f_tests_in : Addr} {od_tests_in an_tests_in : Option Addr} {sl_tests_in : Array (Option Value)} {oc_tests_in kV_tests_in dc_tests_in pm_tests_in ct_tests_in : Value} {cd_tests_in : Value} {f_points_in : Addr} {od_points_in an_points_in : Option Addr} {sl_points_in : Array (Option Value)} {oc_points_in kV_points_in dc_points_in pm_points_in ct_points_in : Value} {cd_points_in : Value} {f_is_book : Addr} {od_is_book an_is_book : Option Addr} {sl_is_book : Array (Option Value)} {oc_is_book kV_is_book dc_is_book pm_is_book ct_is_book : Value} {cd_is_book : Value} {f_need_book : Addr} {od_need_book an_need_book : Option Addr} {sl_need_book : Array (Option Value)} {oc_need_book kV_need_book dc_need_book pm_need_book ct_need_book : Value} {cd_need_book : Value} {f_tests_of : Addr} {od_tests_of an_tests_of : Option Addr} {sl_tests_of : Array (Option Value)} {oc_tests_of kV_tests_of dc_tests_of pm_tests_of ct_tests_of : Value} {cd_tests_of : Value} {f_known_of : Addr} {od_known_of an_known_of : Option Addr} {sl_known_of : Array (Option Value)} {oc_known_of kV_known_of dc_known_of pm_known_of ct_known_of : Value} {cd_known_of : Value} {f__law_begun : Addr} {od__law_begun an__law_begun : Option Addr} {sl__law_begun : Array (Option Value)} {oc__law_begun kV__law_begun dc__law_begun pm__law_begun ct__law_begun : Value} {cd__law_begun : Value} {f__law_mixed : Addr} {od__law_mixed an__law_mixed : Option Addr} {sl__law_mixed : Array (Option Value)} {oc__law_mixed kV__law_mixed dc__law_mixed pm__law_mixed ct__law_mixed : Value} {cd__law_mixed : Value} {f__law_draw : Addr} {od__law_draw an__law_draw : Option Addr} {sl__law_draw : Array (Option Value)} {oc__law_draw kV__law_draw dc__law_draw pm__law_draw ct__law_draw : Value} {cd__law_draw : Value} {f__law_pick : Addr} {od__law_pick an__law_pick : Option Addr} {sl__law_pick : Array (Option Value)} {oc__law_pick kV__law_pick dc__law_pick pm__law_pick ct__law_pick : Value} {cd__law_pick : Value} {f__law_shuffled : Addr} {od__law_shuffled an__law_shuffled : Option Addr} {sl__law_shuffled : Array (Option Value)} {oc__law_shuffled kV__law_shuffled dc__law_shuffled pm__law_shuffled ct__law_shuffled : Value} {cd__law_shuffled : Value} {f__law_number : Addr} {od__law_number an__law_number : Option Addr} {sl__law_number : Array (Option Value)} {oc__law_number kV__law_number dc__law_number pm__law_number ct__law_number : Value} {cd__law_number : Value} {f__law_some_test : Addr} {od__law_some_test an__law_some_test : Option Addr} {sl__law_some_test : Array (Option Value)} {oc__law_some_test kV__law_some_test dc__law_some_test pm__law_some_test ct__law_some_test : Value} {cd__law_some_test : Value} {f__law_some_pattern : Addr} {od__law_some_pattern an__law_some_pattern : Option Addr} {sl__law_some_pattern : Array (Option Value)} {oc__law_some_pattern kV__law_some_pattern dc__law_some_pattern pm__law_some_pattern ct__law_some_pattern : Value} {cd__law_some_pattern : Value} {f__law_some_points : Addr} {od__law_some_points an__law_some_points : Option Addr} {sl__law_some_points : Array (Option Value)} {oc__law_some_points kV__law_some_points dc__law_some_points pm__law_some_points ct__law_some_points : Value} {cd__law_some_points : Value} {f__law_some_members : Addr} {od__law_some_members an__law_some_members : Option Addr} {sl__law_some_members : Array (Option Value)} {oc__law_some_members kV__law_some_members dc__law_some_members pm__law_some_members ct__law_some_members : Value} {cd__law_some_members : Value} {f__law_some_case : Addr} {od__law_some_case an__law_some_case : Option Addr} {sl__law_some_case : Array (Option Value)} {oc__law_some_case kV__law_some_case dc__law_some_case pm__law_some_case ct__law_some_case : Value} {cd__law_some_case : Value} {f__law_some_book : Addr} {od__law_some_book an__law_some_book : Option Addr} {sl__law_some_book : Array (Option Value)} {oc__law_some_book kV__law_some_book dc__law_some_book pm__law_some_book ct__law_some_book : Value} {cd__law_some_book : Value} {f__law_names : Addr} {od__law_names an__law_names : Option Addr} {sl__law_names : Array (Option Value)} {oc__law_names kV__law_names dc__law_names pm__law_names ct__law_names : Value} {cd__law_names : Value} {f__law_wide : Addr} {od__law_wide an__law_wide : Option Addr} {sl__law_wide : Array (Option Value)} {oc__law_wide kV__law_wide dc__law_wide pm__law_wide ct__law_wide : Value} {cd__law_wide : Value} {f__law_balanced : Addr} {od__law_balanced an__law_balanced : Option Addr} {sl__law_balanced : Array (Option Value)} {oc__law_balanced kV__law_balanced dc__law_balanced pm__law_balanced ct__law_balanced : Value} {cd__law_balanced : Value} {f__law_some_bent : Addr} {od__law_some_bent an__law_some_bent : Option Addr} {sl__law_some_bent : Array (Option Value)} {oc__law_some_bent kV__law_some_bent dc__law_some_bent pm__law_some_bent ct__law_some_bent : Value} {cd__law_some_bent : Value} {f_law : Addr} {od_law an_law : Option Addr} {sl_law : Array (Option Value)} {oc_law kV_law dc_law pm_law ct_law : Value} {cd_law : Value} {t_FIRST_HIGH : Tok} {t_FIRST_LOW : Tok} {t_LAST_HIGH : Tok} {t_LAST_LOW : Tok} {t_LETTERS : Tok} {t_MOST_CASES : Tok} {t_MOST_ITEMS : Tok} {t_MOST_KNOWN : Tok} {t_MOST_LETTERS : Tok} {t_MOST_LEVELS : Tok} {t_MOST_MEMBERS : Tok} {t_MOST_NAMES : Tok} {t_MOST_NESTED : Tok} {t_MOST_POINT : Tok} {t_MOST_TESTS : Tok} {t_NUMBER : Tok} {t_STRING : Tok} {d_DUES : Addr} {its_DUES : Array Value} {n_DUES : Nat} {t_DUES_0 : Tok} {t_DUES_1 : Tok} {d_SIGNS : Addr} {its_SIGNS : Array Value} {n_SIGNS : Nat} {t_SIGNS_0 : Tok} {t_SIGNS_1 : Tok} {t_SIGNS_2 : Tok} {t_SIGNS_3 : Tok} {t_SIGNS_4 : Tok} {d_WORDS : Addr} {its_WORDS : Array Value} {n_WORDS : Nat} {t_WORDS_0 : Tok} {t_WORDS_1 : Tok} {t_WORDS_2 : Tok} {d_PARTS : Addr} {es_PARTS : Array DictEntry} {ep_PARTS : Nat} {t_PARTS_0 : Tok} {t_PARTS_1 : Tok} {t_PARTS_2 : Tok} {t_PARTS_3 : Tok} {t_PARTS_4 : Tok}
    (a_is_whole : PySem.W.nsIn K mainGlobals "is_whole" = some (some (.ref f_is_whole)))
    (l_is_whole : K.lookup f_is_whole = some ⟨oc_is_whole, od_is_whole, .func (PySem.W.fnOf "is_whole" "is_whole" (defArgs (top 4)) (defBody (top 4)) (defScope (top 4)) .none kV_is_whole dc_is_whole pm_is_whole an_is_whole cd_is_whole ct_is_whole), sl_is_whole⟩)
    (c_is_whole : PySem.W.codeIn K cd_is_whole "is_whole" = true)
    (k_is_whole : PySem.W.keepIn K (.ref f_is_whole) = true)
    (a_is_decimal : PySem.W.nsIn K mainGlobals "is_decimal" = some (some (.ref f_is_decimal)))
    (l_is_decimal : K.lookup f_is_decimal = some ⟨oc_is_decimal, od_is_decimal, .func (PySem.W.fnOf "is_decimal" "is_decimal" (defArgs (top 5)) (defBody (top 5)) (defScope (top 5)) .none kV_is_decimal dc_is_decimal pm_is_decimal an_is_decimal cd_is_decimal ct_is_decimal), sl_is_decimal⟩)
    (c_is_decimal : PySem.W.codeIn K cd_is_decimal "is_decimal" = true)
    (k_is_decimal : PySem.W.keepIn K (.ref f_is_decimal) = true)
    (a_is_high : PySem.W.nsIn K mainGlobals "is_high" = some (some (.ref f_is_high)))
    (l_is_high : K.lookup f_is_high = some ⟨oc_is_high, od_is_high, .func (PySem.W.fnOf "is_high" "is_high" (defArgs (top 12)) (defBody (top 12)) (defScope (top 12)) .none kV_is_high dc_is_high pm_is_high an_is_high cd_is_high ct_is_high), sl_is_high⟩)
    (c_is_high : PySem.W.codeIn K cd_is_high "is_high" = true)
    (k_is_high : PySem.W.keepIn K (.ref f_is_high) = true)
    (a_is_low : PySem.W.nsIn K mainGlobals "is_low" = some (some (.ref f_is_low)))
    (l_is_low : K.lookup f_is_low = some ⟨oc_is_low, od_is_low, .func (PySem.W.fnOf "is_low" "is_low" (defArgs (top 13)) (defBody (top 13)) (defScope (top 13)) .none kV_is_low dc_is_low pm_is_low an_is_low cd_is_low ct_is_low), sl_is_low⟩)
    (c_is_low : PySem.W.codeIn K cd_is_low "is_low" = true)
    (k_is_low : PySem.W.keepIn K (.ref f_is_low) = true)
    (a_is_point : PySem.W.nsIn K mainGlobals "is_point" = some (some (.ref f_is_point)))
    (l_is_point : K.lookup f_is_point = some ⟨oc_is_point, od_is_point, .func (PySem.W.fnOf "is_point" "is_point" (defArgs (top 14)) (defBody (top 14)) (defScope (top 14)) .none kV_is_point dc_is_point pm_is_point an_is_point cd_is_point ct_is_point), sl_is_point⟩)
    (c_is_point : PySem.W.codeIn K cd_is_point "is_point" = true)
    (k_is_point : PySem.W.keepIn K (.ref f_is_point) = true)
    (a_is_points : PySem.W.nsIn K mainGlobals "is_points" = some (some (.ref f_is_points)))
    (l_is_points : K.lookup f_is_points = some ⟨oc_is_points, od_is_points, .func (PySem.W.fnOf "is_points" "is_points" (defArgs (top 15)) (defBody (top 15)) (defScope (top 15)) .none kV_is_points dc_is_points pm_is_points an_is_points cd_is_points ct_is_points), sl_is_points⟩)
    (c_is_points : PySem.W.codeIn K cd_is_points "is_points" = true)
    (k_is_points : PySem.W.keepIn K (.ref f_is_points) = true)
    (a_are_items : PySem.W.nsIn K mainGlobals "are_items" = some (some (.ref f_are_items)))
    (l_are_items : K.lookup f_are_items = some ⟨oc_are_items, od_are_items, .func (PySem.W.fnOf "are_items" "are_items" (defArgs (top 19)) (defBody (top 19)) (defScope (top 19)) .none kV_are_items dc_are_items pm_are_items an_are_items cd_are_items ct_are_items), sl_are_items⟩)
    (c_are_items : PySem.W.codeIn K cd_are_items "are_items" = true)
    (k_are_items : PySem.W.keepIn K (.ref f_are_items) = true)
    (a_are_members : PySem.W.nsIn K mainGlobals "are_members" = some (some (.ref f_are_members)))
    (l_are_members : K.lookup f_are_members = some ⟨oc_are_members, od_are_members, .func (PySem.W.fnOf "are_members" "are_members" (defArgs (top 20)) (defBody (top 20)) (defScope (top 20)) .none kV_are_members dc_are_members pm_are_members an_are_members cd_are_members ct_are_members), sl_are_members⟩)
    (c_are_members : PySem.W.codeIn K cd_are_members "are_members" = true)
    (k_are_members : PySem.W.keepIn K (.ref f_are_members) = true)
    (a_is_value_within : PySem.W.nsIn K mainGlobals "is_value_within" = some (some (.ref f_is_value_within)))
    (l_is_value_within : K.lookup f_is_value_within = some ⟨oc_is_value_within, od_is_value_within, .func (PySem.W.fnOf "is_value_within" "is_value_within" (defArgs (top 21)) (defBody (top 21)) (defScope (top 21)) .none kV_is_value_within dc_is_value_within pm_is_value_within an_is_value_within cd_is_value_within ct_is_value_within), sl_is_value_within⟩)
    (c_is_value_within : PySem.W.codeIn K cd_is_value_within "is_value_within" = true)
    (k_is_value_within : PySem.W.keepIn K (.ref f_is_value_within) = true)
    (a_is_value : PySem.W.nsIn K mainGlobals "is_value" = some (some (.ref f_is_value)))
    (l_is_value : K.lookup f_is_value = some ⟨oc_is_value, od_is_value, .func (PySem.W.fnOf "is_value" "is_value" (defArgs (top 22)) (defBody (top 22)) (defScope (top 22)) .none kV_is_value dc_is_value pm_is_value an_is_value cd_is_value ct_is_value), sl_is_value⟩)
    (c_is_value : PySem.W.codeIn K cd_is_value "is_value" = true)
    (k_is_value : PySem.W.keepIn K (.ref f_is_value) = true)
    (a_is_test : PySem.W.nsIn K mainGlobals "is_test" = some (some (.ref f_is_test)))
    (l_is_test : K.lookup f_is_test = some ⟨oc_is_test, od_is_test, .func (PySem.W.fnOf "is_test" "is_test" (defArgs (top 27)) (defBody (top 27)) (defScope (top 27)) .none kV_is_test dc_is_test pm_is_test an_is_test cd_is_test ct_is_test), sl_is_test⟩)
    (c_is_test : PySem.W.codeIn K cd_is_test "is_test" = true)
    (k_is_test : PySem.W.keepIn K (.ref f_is_test) = true)
    (a_is_pattern_within : PySem.W.nsIn K mainGlobals "is_pattern_within" = some (some (.ref f_is_pattern_within)))
    (l_is_pattern_within : K.lookup f_is_pattern_within = some ⟨oc_is_pattern_within, od_is_pattern_within, .func (PySem.W.fnOf "is_pattern_within" "is_pattern_within" (defArgs (top 32)) (defBody (top 32)) (defScope (top 32)) .none kV_is_pattern_within dc_is_pattern_within pm_is_pattern_within an_is_pattern_within cd_is_pattern_within ct_is_pattern_within), sl_is_pattern_within⟩)
    (c_is_pattern_within : PySem.W.codeIn K cd_is_pattern_within "is_pattern_within" = true)
    (k_is_pattern_within : PySem.W.keepIn K (.ref f_is_pattern_within) = true)
    (a_is_pattern : PySem.W.nsIn K mainGlobals "is_pattern" = some (some (.ref f_is_pattern)))
    (l_is_pattern : K.lookup f_is_pattern = some ⟨oc_is_pattern, od_is_pattern, .func (PySem.W.fnOf "is_pattern" "is_pattern" (defArgs (top 33)) (defBody (top 33)) (defScope (top 33)) .none kV_is_pattern dc_is_pattern pm_is_pattern an_is_pattern cd_is_pattern ct_is_pattern), sl_is_pattern⟩)
    (c_is_pattern : PySem.W.codeIn K cd_is_pattern "is_pattern" = true)
    (k_is_pattern : PySem.W.keepIn K (.ref f_is_pattern) = true)
    (a_places_of : PySem.W.nsIn K mainGlobals "places_of" = some (some (.ref f_places_of)))
    (l_places_of : K.lookup f_places_of = some ⟨oc_places_of, od_places_of, .func (PySem.W.fnOf "places_of" "places_of" (defArgs (top 34)) (defBody (top 34)) (defScope (top 34)) .none kV_places_of dc_places_of pm_places_of an_places_of cd_places_of ct_places_of), sl_places_of⟩)
    (c_places_of : PySem.W.codeIn K cd_places_of "places_of" = true)
    (k_places_of : PySem.W.keepIn K (.ref f_places_of) = true)
    (a_is_type_name : PySem.W.nsIn K mainGlobals "is_type_name" = some (some (.ref f_is_type_name)))
    (l_is_type_name : K.lookup f_is_type_name = some ⟨oc_is_type_name, od_is_type_name, .func (PySem.W.fnOf "is_type_name" "is_type_name" (defArgs (top 44)) (defBody (top 44)) (defScope (top 44)) .none kV_is_type_name dc_is_type_name pm_is_type_name an_is_type_name cd_is_type_name ct_is_type_name), sl_is_type_name⟩)
    (c_is_type_name : PySem.W.codeIn K cd_is_type_name "is_type_name" = true)
    (k_is_type_name : PySem.W.keepIn K (.ref f_is_type_name) = true)
    (a_are_tests_of : PySem.W.nsIn K mainGlobals "are_tests_of" = some (some (.ref f_are_tests_of)))
    (l_are_tests_of : K.lookup f_are_tests_of = some ⟨oc_are_tests_of, od_are_tests_of, .func (PySem.W.fnOf "are_tests_of" "are_tests_of" (defArgs (top 45)) (defBody (top 45)) (defScope (top 45)) .none kV_are_tests_of dc_are_tests_of pm_are_tests_of an_are_tests_of cd_are_tests_of ct_are_tests_of), sl_are_tests_of⟩)
    (c_are_tests_of : PySem.W.codeIn K cd_are_tests_of "are_tests_of" = true)
    (k_are_tests_of : PySem.W.keepIn K (.ref f_are_tests_of) = true)
    (a_are_triples : PySem.W.nsIn K mainGlobals "are_triples" = some (some (.ref f_are_triples)))
    (l_are_triples : K.lookup f_are_triples = some ⟨oc_are_triples, od_are_triples, .func (PySem.W.fnOf "are_triples" "are_triples" (defArgs (top 46)) (defBody (top 46)) (defScope (top 46)) .none kV_are_triples dc_are_triples pm_are_triples an_are_triples cd_are_triples ct_are_triples), sl_are_triples⟩)
    (c_are_triples : PySem.W.codeIn K cd_are_triples "are_triples" = true)
    (k_are_triples : PySem.W.keepIn K (.ref f_are_triples) = true)
    (a_is_case : PySem.W.nsIn K mainGlobals "is_case" = some (some (.ref f_is_case)))
    (l_is_case : K.lookup f_is_case = some ⟨oc_is_case, od_is_case, .func (PySem.W.fnOf "is_case" "is_case" (defArgs (top 47)) (defBody (top 47)) (defScope (top 47)) .none kV_is_case dc_is_case pm_is_case an_is_case cd_is_case ct_is_case), sl_is_case⟩)
    (c_is_case : PySem.W.codeIn K cd_is_case "is_case" = true)
    (k_is_case : PySem.W.keepIn K (.ref f_is_case) = true)
    (a_cases_in : PySem.W.nsIn K mainGlobals "cases_in" = some (some (.ref f_cases_in)))
    (l_cases_in : K.lookup f_cases_in = some ⟨oc_cases_in, od_cases_in, .func (PySem.W.fnOf "cases_in" "cases_in" (defArgs (top 48)) (defBody (top 48)) (defScope (top 48)) .none kV_cases_in dc_cases_in pm_cases_in an_cases_in cd_cases_in ct_cases_in), sl_cases_in⟩)
    (c_cases_in : PySem.W.codeIn K cd_cases_in "cases_in" = true)
    (k_cases_in : PySem.W.keepIn K (.ref f_cases_in) = true)
    (a_tests_in : PySem.W.nsIn K mainGlobals "tests_in" = some (some (.ref f_tests_in)))
    (l_tests_in : K.lookup f_tests_in = some ⟨oc_tests_in, od_tests_in, .func (PySem.W.fnOf "tests_in" "tests_in" (defArgs (top 49)) (defBody (top 49)) (defScope (top 49)) .none kV_tests_in dc_tests_in pm_tests_in an_tests_in cd_tests_in ct_tests_in), sl_tests_in⟩)
    (c_tests_in : PySem.W.codeIn K cd_tests_in "tests_in" = true)
    (k_tests_in : PySem.W.keepIn K (.ref f_tests_in) = true)
    (a_points_in : PySem.W.nsIn K mainGlobals "points_in" = some (some (.ref f_points_in)))
    (l_points_in : K.lookup f_points_in = some ⟨oc_points_in, od_points_in, .func (PySem.W.fnOf "points_in" "points_in" (defArgs (top 50)) (defBody (top 50)) (defScope (top 50)) .none kV_points_in dc_points_in pm_points_in an_points_in cd_points_in ct_points_in), sl_points_in⟩)
    (c_points_in : PySem.W.codeIn K cd_points_in "points_in" = true)
    (k_points_in : PySem.W.keepIn K (.ref f_points_in) = true)
    (a_is_book : PySem.W.nsIn K mainGlobals "is_book" = some (some (.ref f_is_book)))
    (l_is_book : K.lookup f_is_book = some ⟨oc_is_book, od_is_book, .func (PySem.W.fnOf "is_book" "is_book" (defArgs (top 51)) (defBody (top 51)) (defScope (top 51)) .none kV_is_book dc_is_book pm_is_book an_is_book cd_is_book ct_is_book), sl_is_book⟩)
    (c_is_book : PySem.W.codeIn K cd_is_book "is_book" = true)
    (k_is_book : PySem.W.keepIn K (.ref f_is_book) = true)
    (a_need_book : PySem.W.nsIn K mainGlobals "need_book" = some (some (.ref f_need_book)))
    (l_need_book : K.lookup f_need_book = some ⟨oc_need_book, od_need_book, .func (PySem.W.fnOf "need_book" "need_book" (defArgs (top 52)) (defBody (top 52)) (defScope (top 52)) .none kV_need_book dc_need_book pm_need_book an_need_book cd_need_book ct_need_book), sl_need_book⟩)
    (c_need_book : PySem.W.codeIn K cd_need_book "need_book" = true)
    (k_need_book : PySem.W.keepIn K (.ref f_need_book) = true)
    (a_tests_of : PySem.W.nsIn K mainGlobals "tests_of" = some (some (.ref f_tests_of)))
    (l_tests_of : K.lookup f_tests_of = some ⟨oc_tests_of, od_tests_of, .func (PySem.W.fnOf "tests_of" "tests_of" (defArgs (top 53)) (defBody (top 53)) (defScope (top 53)) .none kV_tests_of dc_tests_of pm_tests_of an_tests_of cd_tests_of ct_tests_of), sl_tests_of⟩)
    (c_tests_of : PySem.W.codeIn K cd_tests_of "tests_of" = true)
    (k_tests_of : PySem.W.keepIn K (.ref f_tests_of) = true)
    (a_known_of : PySem.W.nsIn K mainGlobals "known_of" = some (some (.ref f_known_of)))
    (l_known_of : K.lookup f_known_of = some ⟨oc_known_of, od_known_of, .func (PySem.W.fnOf "known_of" "known_of" (defArgs (top 54)) (defBody (top 54)) (defScope (top 54)) .none kV_known_of dc_known_of pm_known_of an_known_of cd_known_of ct_known_of), sl_known_of⟩)
    (c_known_of : PySem.W.codeIn K cd_known_of "known_of" = true)
    (k_known_of : PySem.W.keepIn K (.ref f_known_of) = true)
    (a__law_begun : PySem.W.nsIn K mainGlobals "_law_begun" = some (some (.ref f__law_begun)))
    (l__law_begun : K.lookup f__law_begun = some ⟨oc__law_begun, od__law_begun, .func (PySem.W.fnOf "_law_begun" "_law_begun" (defArgs (top 56)) (defBody (top 56)) (defScope (top 56)) .none kV__law_begun dc__law_begun pm__law_begun an__law_begun cd__law_begun ct__law_begun), sl__law_begun⟩)
    (c__law_begun : PySem.W.codeIn K cd__law_begun "_law_begun" = true)
    (k__law_begun : PySem.W.keepIn K (.ref f__law_begun) = true)
    (a__law_mixed : PySem.W.nsIn K mainGlobals "_law_mixed" = some (some (.ref f__law_mixed)))
    (l__law_mixed : K.lookup f__law_mixed = some ⟨oc__law_mixed, od__law_mixed, .func (PySem.W.fnOf "_law_mixed" "_law_mixed" (defArgs (top 57)) (defBody (top 57)) (defScope (top 57)) .none kV__law_mixed dc__law_mixed pm__law_mixed an__law_mixed cd__law_mixed ct__law_mixed), sl__law_mixed⟩)
    (c__law_mixed : PySem.W.codeIn K cd__law_mixed "_law_mixed" = true)
    (k__law_mixed : PySem.W.keepIn K (.ref f__law_mixed) = true)
    (a__law_draw : PySem.W.nsIn K mainGlobals "_law_draw" = some (some (.ref f__law_draw)))
    (l__law_draw : K.lookup f__law_draw = some ⟨oc__law_draw, od__law_draw, .func (PySem.W.fnOf "_law_draw" "_law_draw" (defArgs (top 58)) (defBody (top 58)) (defScope (top 58)) .none kV__law_draw dc__law_draw pm__law_draw an__law_draw cd__law_draw ct__law_draw), sl__law_draw⟩)
    (c__law_draw : PySem.W.codeIn K cd__law_draw "_law_draw" = true)
    (k__law_draw : PySem.W.keepIn K (.ref f__law_draw) = true)
    (a__law_pick : PySem.W.nsIn K mainGlobals "_law_pick" = some (some (.ref f__law_pick)))
    (l__law_pick : K.lookup f__law_pick = some ⟨oc__law_pick, od__law_pick, .func (PySem.W.fnOf "_law_pick" "_law_pick" (defArgs (top 59)) (defBody (top 59)) (defScope (top 59)) .none kV__law_pick dc__law_pick pm__law_pick an__law_pick cd__law_pick ct__law_pick), sl__law_pick⟩)
    (c__law_pick : PySem.W.codeIn K cd__law_pick "_law_pick" = true)
    (k__law_pick : PySem.W.keepIn K (.ref f__law_pick) = true)
    (a__law_shuffled : PySem.W.nsIn K mainGlobals "_law_shuffled" = some (some (.ref f__law_shuffled)))
    (l__law_shuffled : K.lookup f__law_shuffled = some ⟨oc__law_shuffled, od__law_shuffled, .func (PySem.W.fnOf "_law_shuffled" "_law_shuffled" (defArgs (top 60)) (defBody (top 60)) (defScope (top 60)) .none kV__law_shuffled dc__law_shuffled pm__law_shuffled an__law_shuffled cd__law_shuffled ct__law_shuffled), sl__law_shuffled⟩)
    (c__law_shuffled : PySem.W.codeIn K cd__law_shuffled "_law_shuffled" = true)
    (k__law_shuffled : PySem.W.keepIn K (.ref f__law_shuffled) = true)
    (a__law_number : PySem.W.nsIn K mainGlobals "_law_number" = some (some (.ref f__law_number)))
    (l__law_number : K.lookup f__law_number = some ⟨oc__law_number, od__law_number, .func (PySem.W.fnOf "_law_number" "_law_number" (defArgs (top 61)) (defBody (top 61)) (defScope (top 61)) .none kV__law_number dc__law_number pm__law_number an__law_number cd__law_number ct__law_number), sl__law_number⟩)
    (c__law_number : PySem.W.codeIn K cd__law_number "_law_number" = true)
    (k__law_number : PySem.W.keepIn K (.ref f__law_number) = true)
    (a__law_some_test : PySem.W.nsIn K mainGlobals "_law_some_test" = some (some (.ref f__law_some_test)))
    (l__law_some_test : K.lookup f__law_some_test = some ⟨oc__law_some_test, od__law_some_test, .func (PySem.W.fnOf "_law_some_test" "_law_some_test" (defArgs (top 62)) (defBody (top 62)) (defScope (top 62)) .none kV__law_some_test dc__law_some_test pm__law_some_test an__law_some_test cd__law_some_test ct__law_some_test), sl__law_some_test⟩)
    (c__law_some_test : PySem.W.codeIn K cd__law_some_test "_law_some_test" = true)
    (k__law_some_test : PySem.W.keepIn K (.ref f__law_some_test) = true)
    (a__law_some_pattern : PySem.W.nsIn K mainGlobals "_law_some_pattern" = some (some (.ref f__law_some_pattern)))
    (l__law_some_pattern : K.lookup f__law_some_pattern = some ⟨oc__law_some_pattern, od__law_some_pattern, .func (PySem.W.fnOf "_law_some_pattern" "_law_some_pattern" (defArgs (top 63)) (defBody (top 63)) (defScope (top 63)) .none kV__law_some_pattern dc__law_some_pattern pm__law_some_pattern an__law_some_pattern cd__law_some_pattern ct__law_some_pattern), sl__law_some_pattern⟩)
    (c__law_some_pattern : PySem.W.codeIn K cd__law_some_pattern "_law_some_pattern" = true)
    (k__law_some_pattern : PySem.W.keepIn K (.ref f__law_some_pattern) = true)
    (a__law_some_points : PySem.W.nsIn K mainGlobals "_law_some_points" = some (some (.ref f__law_some_points)))
    (l__law_some_points : K.lookup f__law_some_points = some ⟨oc__law_some_points, od__law_some_points, .func (PySem.W.fnOf "_law_some_points" "_law_some_points" (defArgs (top 64)) (defBody (top 64)) (defScope (top 64)) .none kV__law_some_points dc__law_some_points pm__law_some_points an__law_some_points cd__law_some_points ct__law_some_points), sl__law_some_points⟩)
    (c__law_some_points : PySem.W.codeIn K cd__law_some_points "_law_some_points" = true)
    (k__law_some_points : PySem.W.keepIn K (.ref f__law_some_points) = true)
    (a__law_some_members : PySem.W.nsIn K mainGlobals "_law_some_members" = some (some (.ref f__law_some_members)))
    (l__law_some_members : K.lookup f__law_some_members = some ⟨oc__law_some_members, od__law_some_members, .func (PySem.W.fnOf "_law_some_members" "_law_some_members" (defArgs (top 65)) (defBody (top 65)) (defScope (top 65)) .none kV__law_some_members dc__law_some_members pm__law_some_members an__law_some_members cd__law_some_members ct__law_some_members), sl__law_some_members⟩)
    (c__law_some_members : PySem.W.codeIn K cd__law_some_members "_law_some_members" = true)
    (k__law_some_members : PySem.W.keepIn K (.ref f__law_some_members) = true)
    (a__law_some_case : PySem.W.nsIn K mainGlobals "_law_some_case" = some (some (.ref f__law_some_case)))
    (l__law_some_case : K.lookup f__law_some_case = some ⟨oc__law_some_case, od__law_some_case, .func (PySem.W.fnOf "_law_some_case" "_law_some_case" (defArgs (top 66)) (defBody (top 66)) (defScope (top 66)) .none kV__law_some_case dc__law_some_case pm__law_some_case an__law_some_case cd__law_some_case ct__law_some_case), sl__law_some_case⟩)
    (c__law_some_case : PySem.W.codeIn K cd__law_some_case "_law_some_case" = true)
    (k__law_some_case : PySem.W.keepIn K (.ref f__law_some_case) = true)
    (a__law_some_book : PySem.W.nsIn K mainGlobals "_law_some_book" = some (some (.ref f__law_some_book)))
    (l__law_some_book : K.lookup f__law_some_book = some ⟨oc__law_some_book, od__law_some_book, .func (PySem.W.fnOf "_law_some_book" "_law_some_book" (defArgs (top 67)) (defBody (top 67)) (defScope (top 67)) .none kV__law_some_book dc__law_some_book pm__law_some_book an__law_some_book cd__law_some_book ct__law_some_book), sl__law_some_book⟩)
    (c__law_some_book : PySem.W.codeIn K cd__law_some_book "_law_some_book" = true)
    (k__law_some_book : PySem.W.keepIn K (.ref f__law_some_book) = true)
    (a__law_names : PySem.W.nsIn K mainGlobals "_law_names" = some (some (.ref f__law_names)))
    (l__law_names : K.lookup f__law_names = some ⟨oc__law_names, od__law_names, .func (PySem.W.fnOf "_law_names" "_law_names" (defArgs (top 68)) (defBody (top 68)) (defScope (top 68)) .none kV__law_names dc__law_names pm__law_names an__law_names cd__law_names ct__law_names), sl__law_names⟩)
    (c__law_names : PySem.W.codeIn K cd__law_names "_law_names" = true)
    (k__law_names : PySem.W.keepIn K (.ref f__law_names) = true)
    (a__law_wide : PySem.W.nsIn K mainGlobals "_law_wide" = some (some (.ref f__law_wide)))
    (l__law_wide : K.lookup f__law_wide = some ⟨oc__law_wide, od__law_wide, .func (PySem.W.fnOf "_law_wide" "_law_wide" (defArgs (top 69)) (defBody (top 69)) (defScope (top 69)) .none kV__law_wide dc__law_wide pm__law_wide an__law_wide cd__law_wide ct__law_wide), sl__law_wide⟩)
    (c__law_wide : PySem.W.codeIn K cd__law_wide "_law_wide" = true)
    (k__law_wide : PySem.W.keepIn K (.ref f__law_wide) = true)
    (a__law_balanced : PySem.W.nsIn K mainGlobals "_law_balanced" = some (some (.ref f__law_balanced)))
    (l__law_balanced : K.lookup f__law_balanced = some ⟨oc__law_balanced, od__law_balanced, .func (PySem.W.fnOf "_law_balanced" "_law_balanced" (defArgs (top 70)) (defBody (top 70)) (defScope (top 70)) .none kV__law_balanced dc__law_balanced pm__law_balanced an__law_balanced cd__law_balanced ct__law_balanced), sl__law_balanced⟩)
    (c__law_balanced : PySem.W.codeIn K cd__law_balanced "_law_balanced" = true)
    (k__law_balanced : PySem.W.keepIn K (.ref f__law_balanced) = true)
    (a__law_some_bent : PySem.W.nsIn K mainGlobals "_law_some_bent" = some (some (.ref f__law_some_bent)))
    (l__law_some_bent : K.lookup f__law_some_bent = some ⟨oc__law_some_bent, od__law_some_bent, .func (PySem.W.fnOf "_law_some_bent" "_law_some_bent" (defArgs (top 71)) (defBody (top 71)) (defScope (top 71)) .none kV__law_some_bent dc__law_some_bent pm__law_some_bent an__law_some_bent cd__law_some_bent ct__law_some_bent), sl__law_some_bent⟩)
    (c__law_some_bent : PySem.W.codeIn K cd__law_some_bent "_law_some_bent" = true)
    (k__law_some_bent : PySem.W.keepIn K (.ref f__law_some_bent) = true)
    (a_law : PySem.W.nsIn K mainGlobals "law" = some (some (.ref f_law)))
    (l_law : K.lookup f_law = some ⟨oc_law, od_law, .func (PySem.W.fnOf "law" "law" (defArgs (top 72)) (defBody (top 72)) (defScope (top 72)) .none kV_law dc_law pm_law an_law cd_law ct_law), sl_law⟩)
    (c_law : PySem.W.codeIn K cd_law "law" = true)
    (k_law : PySem.W.keepIn K (.ref f_law) = true)
    (n_abs : PySem.W.nsIn K mainGlobals "abs" = some none)
    (n_all : PySem.W.nsIn K mainGlobals "all" = some none)
    (n_any : PySem.W.nsIn K mainGlobals "any" = some none)
    (n_bool : PySem.W.nsIn K mainGlobals "bool" = some none)
    (n_dict : PySem.W.nsIn K mainGlobals "dict" = some none)
    (n_int : PySem.W.nsIn K mainGlobals "int" = some none)
    (n_isinstance : PySem.W.nsIn K mainGlobals "isinstance" = some none)
    (n_len : PySem.W.nsIn K mainGlobals "len" = some none)
    (n_list : PySem.W.nsIn K mainGlobals "list" = some none)
    (n_range : PySem.W.nsIn K mainGlobals "range" = some none)
    (n_set : PySem.W.nsIn K mainGlobals "set" = some none)
    (n_sorted : PySem.W.nsIn K mainGlobals "sorted" = some none)
    (n_str : PySem.W.nsIn K mainGlobals "str" = some none)
    (n_tuple : PySem.W.nsIn K mainGlobals "tuple" = some none)
    (n_zip : PySem.W.nsIn K mainGlobals "zip" = some none)
    (x_FIRST_HIGH : PySem.W.nsIn K mainGlobals "FIRST_HIGH" = some (some (.int 55296 t_FIRST_HIGH)))
    (x_FIRST_LOW : PySem.W.nsIn K mainGlobals "FIRST_LOW" = some (some (.int 56320 t_FIRST_LOW)))
    (x_LAST_HIGH : PySem.W.nsIn K mainGlobals "LAST_HIGH" = some (some (.int 56319 t_LAST_HIGH)))
    (x_LAST_LOW : PySem.W.nsIn K mainGlobals "LAST_LOW" = some (some (.int 57343 t_LAST_LOW)))
    (x_LETTERS : PySem.W.nsIn K mainGlobals "LETTERS" = some (some (.str "abcdefghijklmnopqrstuvwxyz" t_LETTERS)))
    (x_MOST_CASES : PySem.W.nsIn K mainGlobals "MOST_CASES" = some (some (.int 7 t_MOST_CASES)))
    (x_MOST_ITEMS : PySem.W.nsIn K mainGlobals "MOST_ITEMS" = some (some (.int 8 t_MOST_ITEMS)))
    (x_MOST_KNOWN : PySem.W.nsIn K mainGlobals "MOST_KNOWN" = some (some (.int 6 t_MOST_KNOWN)))
    (x_MOST_LETTERS : PySem.W.nsIn K mainGlobals "MOST_LETTERS" = some (some (.int 6 t_MOST_LETTERS)))
    (x_MOST_LEVELS : PySem.W.nsIn K mainGlobals "MOST_LEVELS" = some (some (.int 30 t_MOST_LEVELS)))
    (x_MOST_MEMBERS : PySem.W.nsIn K mainGlobals "MOST_MEMBERS" = some (some (.int 6 t_MOST_MEMBERS)))
    (x_MOST_NAMES : PySem.W.nsIn K mainGlobals "MOST_NAMES" = some (some (.int 8 t_MOST_NAMES)))
    (x_MOST_NESTED : PySem.W.nsIn K mainGlobals "MOST_NESTED" = some (some (.int 6 t_MOST_NESTED)))
    (x_MOST_POINT : PySem.W.nsIn K mainGlobals "MOST_POINT" = some (some (.int 1114111 t_MOST_POINT)))
    (x_MOST_TESTS : PySem.W.nsIn K mainGlobals "MOST_TESTS" = some (some (.int 6 t_MOST_TESTS)))
    (x_NUMBER : PySem.W.nsIn K mainGlobals "NUMBER" = some (some (.str "number" t_NUMBER)))
    (x_STRING : PySem.W.nsIn K mainGlobals "STRING" = some (some (.str "string" t_STRING)))
    (m_DUES : PySem.W.nsIn K mainGlobals "DUES" = some (some (.ref d_DUES)))
    (o_DUES : K.lookup d_DUES = some ⟨.type "tuple", none, .seq its_DUES n_DUES, #[]⟩)
    (v_DUES : its_DUES = #[.str "asked" t_DUES_0, .str "allowed" t_DUES_1])
    (m_SIGNS : PySem.W.nsIn K mainGlobals "SIGNS" = some (some (.ref d_SIGNS)))
    (o_SIGNS : K.lookup d_SIGNS = some ⟨.type "tuple", none, .seq its_SIGNS n_SIGNS, #[]⟩)
    (v_SIGNS : its_SIGNS = #[.str "<" t_SIGNS_0, .str "<=" t_SIGNS_1, .str "==" t_SIGNS_2, .str ">=" t_SIGNS_3, .str ">" t_SIGNS_4])
    (m_WORDS : PySem.W.nsIn K mainGlobals "WORDS" = some (some (.ref d_WORDS)))
    (o_WORDS : K.lookup d_WORDS = some ⟨.type "tuple", none, .seq its_WORDS n_WORDS, #[]⟩)
    (v_WORDS : its_WORDS = #[.str "null" t_WORDS_0, .str "true" t_WORDS_1, .str "false" t_WORDS_2])
    (m_PARTS : PySem.W.nsIn K mainGlobals "PARTS" = some (some (.ref d_PARTS)))
    (o_PARTS : K.lookup d_PARTS = some ⟨.type "dict", none, .dict es_PARTS ep_PARTS, #[]⟩)
    (y_PARTS : PySem.W.KeysLit w.params es_PARTS.toList)
    (s_PARTS : (d_PARTS == sysModules) = false)
    (e_PARTS_0 : PySem.W.nsIn K d_PARTS "none" = some (some (.int 1 t_PARTS_0)))
    (e_PARTS_1 : PySem.W.nsIn K d_PARTS "item" = some (some (.int 2 t_PARTS_1)))
    (e_PARTS_2 : PySem.W.nsIn K d_PARTS "row" = some (some (.int 3 t_PARTS_2)))
    (e_PARTS_3 : PySem.W.nsIn K d_PARTS "either" = some (some (.int 3 t_PARTS_3)))
    (e_PARTS_4 : PySem.W.nsIn K d_PARTS "many" = some (some (.int 2 t_PARTS_4))) :
    ∃ (fd : FuncData) (cs : List (Addr × Addr × Str)), (∀ p ∈ cs, h.get? p.2.1 = some { cls := .none, data := .fields #[] }) ∧ (∀ p ∈ cs, K.lookup p.2.1 = none) ∧ (∀ p ∈ cs, PySem.W.CodeHd h p.1 p.2.1) ∧ (∀ (s : Shared) (u : Value), BindsTo s fd ⟨[u], []⟩ [("script", u)]) ∧
      ∀ base : Heap, K.In base → base.Ns mainGlobals mg → (∀ p ∈ cs, LamX.TabB base mg p.1 p.2.1) → FnM (cs.map fun p => p.2) l.prog w K mg base (k + 2) fa fd ["script"] (tab L k .Flaw) := by
  have efa : f_law = fa := by
    cases hfa.symm.trans (PySem.W.mg_of inK G a_law)
    rfl
  subst efa
  have U : Txt K w mg (adOf f_is_whole f_is_decimal f_is_high f_is_low f_is_point f_is_points f_are_items f_are_members f_is_value_within f_is_value f_is_test f_is_pattern_within f_is_pattern f_places_of f_is_type_name f_are_tests_of f_are_triples f_is_case f_cases_in f_tests_in f_points_in f_is_book f_need_book f_tests_of f_known_of f__law_begun f__law_mixed f__law_draw f__law_pick f__law_shuffled f__law_number f__law_some_test f__law_some_pattern f__law_some_points f__law_some_members f__law_some_case f__law_some_book f__law_names f__law_wide f__law_balanced f__law_some_bent f_law) (fdOf (PySem.W.fnOf "is_whole" "is_whole" (defArgs (top 4)) (defBody (top 4)) (defScope (top 4)) .none kV_is_whole dc_is_whole pm_is_whole an_is_whole cd_is_whole ct_is_whole) (PySem.W.fnOf "is_decimal" "is_decimal" (defArgs (top 5)) (defBody (top 5)) (defScope (top 5)) .none kV_is_decimal dc_is_decimal pm_is_decimal an_is_decimal cd_is_decimal ct_is_decimal) (PySem.W.fnOf "is_high" "is_high" (defArgs (top 12)) (defBody (top 12)) (defScope (top 12)) .none kV_is_high dc_is_high pm_is_high an_is_high cd_is_high ct_is_high) (PySem.W.fnOf "is_low" "is_low" (defArgs (top 13)) (defBody (top 13)) (defScope (top 13)) .none kV_is_low dc_is_low pm_is_low an_is_low cd_is_low ct_is_low) (PySem.W.fnOf "is_point" "is_point" (defArgs (top 14)) (defBody (top 14)) (defScope (top 14)) .none kV_is_point dc_is_point pm_is_point an_is_point cd_is_point ct_is_point) (PySem.W.fnOf "is_points" "is_points" (defArgs (top 15)) (defBody (top 15)) (defScope (top 15)) .none kV_is_points dc_is_points pm_is_points an_is_points cd_is_points ct_is_points) (PySem.W.fnOf "are_items" "are_items" (defArgs (top 19)) (defBody (top 19)) (defScope (top 19)) .none kV_are_items dc_are_items pm_are_items an_are_items cd_are_items ct_are_items) (PySem.W.fnOf "are_members" "are_members" (defArgs (top 20)) (defBody (top 20)) (defScope (top 20)) .none kV_are_members dc_are_members pm_are_members an_are_members cd_are_members ct_are_members) (PySem.W.fnOf "is_value_within" "is_value_within" (defArgs (top 21)) (defBody (top 21)) (defScope (top 21)) .none kV_is_value_within dc_is_value_within pm_is_value_within an_is_value_within cd_is_value_within ct_is_value_within) (PySem.W.fnOf "is_value" "is_value" (defArgs (top 22)) (defBody (top 22)) (defScope (top 22)) .none kV_is_value dc_is_value pm_is_value an_is_value cd_is_value ct_is_value) (PySem.W.fnOf "is_test" "is_test" (defArgs (top 27)) (defBody (top 27)) (defScope (top 27)) .none kV_is_test dc_is_test pm_is_test an_is_test cd_is_test ct_is_test) (PySem.W.fnOf "is_pattern_within" "is_pattern_within" (defArgs (top 32)) (defBody (top 32)) (defScope (top 32)) .none kV_is_pattern_within dc_is_pattern_within pm_is_pattern_within an_is_pattern_within cd_is_pattern_within ct_is_pattern_within) (PySem.W.fnOf "is_pattern" "is_pattern" (defArgs (top 33)) (defBody (top 33)) (defScope (top 33)) .none kV_is_pattern dc_is_pattern pm_is_pattern an_is_pattern cd_is_pattern ct_is_pattern) (PySem.W.fnOf "places_of" "places_of" (defArgs (top 34)) (defBody (top 34)) (defScope (top 34)) .none kV_places_of dc_places_of pm_places_of an_places_of cd_places_of ct_places_of) (PySem.W.fnOf "is_type_name" "is_type_name" (defArgs (top 44)) (defBody (top 44)) (defScope (top 44)) .none kV_is_type_name dc_is_type_name pm_is_type_name an_is_type_name cd_is_type_name ct_is_type_name) (PySem.W.fnOf "are_tests_of" "are_tests_of" (defArgs (top 45)) (defBody (top 45)) (defScope (top 45)) .none kV_are_tests_of dc_are_tests_of pm_are_tests_of an_are_tests_of cd_are_tests_of ct_are_tests_of) (PySem.W.fnOf "are_triples" "are_triples" (defArgs (top 46)) (defBody (top 46)) (defScope (top 46)) .none kV_are_triples dc_are_triples pm_are_triples an_are_triples cd_are_triples ct_are_triples) (PySem.W.fnOf "is_case" "is_case" (defArgs (top 47)) (defBody (top 47)) (defScope (top 47)) .none kV_is_case dc_is_case pm_is_case an_is_case cd_is_case ct_is_case) (PySem.W.fnOf "cases_in" "cases_in" (defArgs (top 48)) (defBody (top 48)) (defScope (top 48)) .none kV_cases_in dc_cases_in pm_cases_in an_cases_in cd_cases_in ct_cases_in) (PySem.W.fnOf "tests_in" "tests_in" (defArgs (top 49)) (defBody (top 49)) (defScope (top 49)) .none kV_tests_in dc_tests_in pm_tests_in an_tests_in cd_tests_in ct_tests_in) (PySem.W.fnOf "points_in" "points_in" (defArgs (top 50)) (defBody (top 50)) (defScope (top 50)) .none kV_points_in dc_points_in pm_points_in an_points_in cd_points_in ct_points_in) (PySem.W.fnOf "is_book" "is_book" (defArgs (top 51)) (defBody (top 51)) (defScope (top 51)) .none kV_is_book dc_is_book pm_is_book an_is_book cd_is_book ct_is_book) (PySem.W.fnOf "need_book" "need_book" (defArgs (top 52)) (defBody (top 52)) (defScope (top 52)) .none kV_need_book dc_need_book pm_need_book an_need_book cd_need_book ct_need_book) (PySem.W.fnOf "tests_of" "tests_of" (defArgs (top 53)) (defBody (top 53)) (defScope (top 53)) .none kV_tests_of dc_tests_of pm_tests_of an_tests_of cd_tests_of ct_tests_of) (PySem.W.fnOf "known_of" "known_of" (defArgs (top 54)) (defBody (top 54)) (defScope (top 54)) .none kV_known_of dc_known_of pm_known_of an_known_of cd_known_of ct_known_of) (PySem.W.fnOf "_law_begun" "_law_begun" (defArgs (top 56)) (defBody (top 56)) (defScope (top 56)) .none kV__law_begun dc__law_begun pm__law_begun an__law_begun cd__law_begun ct__law_begun) (PySem.W.fnOf "_law_mixed" "_law_mixed" (defArgs (top 57)) (defBody (top 57)) (defScope (top 57)) .none kV__law_mixed dc__law_mixed pm__law_mixed an__law_mixed cd__law_mixed ct__law_mixed) (PySem.W.fnOf "_law_draw" "_law_draw" (defArgs (top 58)) (defBody (top 58)) (defScope (top 58)) .none kV__law_draw dc__law_draw pm__law_draw an__law_draw cd__law_draw ct__law_draw) (PySem.W.fnOf "_law_pick" "_law_pick" (defArgs (top 59)) (defBody (top 59)) (defScope (top 59)) .none kV__law_pick dc__law_pick pm__law_pick an__law_pick cd__law_pick ct__law_pick) (PySem.W.fnOf "_law_shuffled" "_law_shuffled" (defArgs (top 60)) (defBody (top 60)) (defScope (top 60)) .none kV__law_shuffled dc__law_shuffled pm__law_shuffled an__law_shuffled cd__law_shuffled ct__law_shuffled) (PySem.W.fnOf "_law_number" "_law_number" (defArgs (top 61)) (defBody (top 61)) (defScope (top 61)) .none kV__law_number dc__law_number pm__law_number an__law_number cd__law_number ct__law_number) (PySem.W.fnOf "_law_some_test" "_law_some_test" (defArgs (top 62)) (defBody (top 62)) (defScope (top 62)) .none kV__law_some_test dc__law_some_test pm__law_some_test an__law_some_test cd__law_some_test ct__law_some_test) (PySem.W.fnOf "_law_some_pattern" "_law_some_pattern" (defArgs (top 63)) (defBody (top 63)) (defScope (top 63)) .none kV__law_some_pattern dc__law_some_pattern pm__law_some_pattern an__law_some_pattern cd__law_some_pattern ct__law_some_pattern) (PySem.W.fnOf "_law_some_points" "_law_some_points" (defArgs (top 64)) (defBody (top 64)) (defScope (top 64)) .none kV__law_some_points dc__law_some_points pm__law_some_points an__law_some_points cd__law_some_points ct__law_some_points) (PySem.W.fnOf "_law_some_members" "_law_some_members" (defArgs (top 65)) (defBody (top 65)) (defScope (top 65)) .none kV__law_some_members dc__law_some_members pm__law_some_members an__law_some_members cd__law_some_members ct__law_some_members) (PySem.W.fnOf "_law_some_case" "_law_some_case" (defArgs (top 66)) (defBody (top 66)) (defScope (top 66)) .none kV__law_some_case dc__law_some_case pm__law_some_case an__law_some_case cd__law_some_case ct__law_some_case) (PySem.W.fnOf "_law_some_book" "_law_some_book" (defArgs (top 67)) (defBody (top 67)) (defScope (top 67)) .none kV__law_some_book dc__law_some_book pm__law_some_book an__law_some_book cd__law_some_book ct__law_some_book) (PySem.W.fnOf "_law_names" "_law_names" (defArgs (top 68)) (defBody (top 68)) (defScope (top 68)) .none kV__law_names dc__law_names pm__law_names an__law_names cd__law_names ct__law_names) (PySem.W.fnOf "_law_wide" "_law_wide" (defArgs (top 69)) (defBody (top 69)) (defScope (top 69)) .none kV__law_wide dc__law_wide pm__law_wide an__law_wide cd__law_wide ct__law_wide) (PySem.W.fnOf "_law_balanced" "_law_balanced" (defArgs (top 70)) (defBody (top 70)) (defScope (top 70)) .none kV__law_balanced dc__law_balanced pm__law_balanced an__law_balanced cd__law_balanced ct__law_balanced) (PySem.W.fnOf "_law_some_bent" "_law_some_bent" (defArgs (top 71)) (defBody (top 71)) (defScope (top 71)) .none kV__law_some_bent dc__law_some_bent pm__law_some_bent an__law_some_bent cd__law_some_bent ct__law_some_bent) (PySem.W.fnOf "law" "law" (defArgs (top 72)) (defBody (top 72)) (defScope (top 72)) .none kV_law dc_law pm_law an_law cd_law ct_law)) := {
    fn := fun f => match f with
      | .Fis_whole => fun_mk (st := top 4) l_is_whole c_is_whole k_is_whole
      | .Fis_decimal => fun_mk (st := top 5) l_is_decimal c_is_decimal k_is_decimal
      | .Fis_high => fun_mk (st := top 12) l_is_high c_is_high k_is_high
      | .Fis_low => fun_mk (st := top 13) l_is_low c_is_low k_is_low
      | .Fis_point => fun_mk (st := top 14) l_is_point c_is_point k_is_point
      | .Fis_points => fun_mk (st := top 15) l_is_points c_is_points k_is_points
      | .Fare_items => fun_mk (st := top 19) l_are_items c_are_items k_are_items
      | .Fare_members => fun_mk (st := top 20) l_are_members c_are_members k_are_members
      | .Fis_value_within => fun_mk (st := top 21) l_is_value_within c_is_value_within k_is_value_within
      | .Fis_value => fun_mk (st := top 22) l_is_value c_is_value k_is_value
      | .Fis_test => fun_mk (st := top 27) l_is_test c_is_test k_is_test
      | .Fis_pattern_within => fun_mk (st := top 32) l_is_pattern_within c_is_pattern_within k_is_pattern_within
      | .Fis_pattern => fun_mk (st := top 33) l_is_pattern c_is_pattern k_is_pattern
      | .Fplaces_of => fun_mk (st := top 34) l_places_of c_places_of k_places_of
      | .Fis_type_name => fun_mk (st := top 44) l_is_type_name c_is_type_name k_is_type_name
      | .Fare_tests_of => fun_mk (st := top 45) l_are_tests_of c_are_tests_of k_are_tests_of
      | .Fare_triples => fun_mk (st := top 46) l_are_triples c_are_triples k_are_triples
      | .Fis_case => fun_mk (st := top 47) l_is_case c_is_case k_is_case
      | .Fcases_in => fun_mk (st := top 48) l_cases_in c_cases_in k_cases_in
      | .Ftests_in => fun_mk (st := top 49) l_tests_in c_tests_in k_tests_in
      | .Fpoints_in => fun_mk (st := top 50) l_points_in c_points_in k_points_in
      | .Fis_book => fun_mk (st := top 51) l_is_book c_is_book k_is_book
      | .Fneed_book => fun_mk (st := top 52) l_need_book c_need_book k_need_book
      | .Ftests_of => fun_mk (st := top 53) l_tests_of c_tests_of k_tests_of
      | .Fknown_of => fun_mk (st := top 54) l_known_of c_known_of k_known_of
      | .F_law_begun => fun_mk (st := top 56) l__law_begun c__law_begun k__law_begun
      | .F_law_mixed => fun_mk (st := top 57) l__law_mixed c__law_mixed k__law_mixed
      | .F_law_draw => fun_mk (st := top 58) l__law_draw c__law_draw k__law_draw
      | .F_law_pick => fun_mk (st := top 59) l__law_pick c__law_pick k__law_pick
      | .F_law_shuffled => fun_mk (st := top 60) l__law_shuffled c__law_shuffled k__law_shuffled
      | .F_law_number => fun_mk (st := top 61) l__law_number c__law_number k__law_number
      | .F_law_some_test => fun_mk (st := top 62) l__law_some_test c__law_some_test k__law_some_test
      | .F_law_some_pattern => fun_mk (st := top 63) l__law_some_pattern c__law_some_pattern k__law_some_pattern
      | .F_law_some_points => fun_mk (st := top 64) l__law_some_points c__law_some_points k__law_some_points
      | .F_law_some_members => fun_mk (st := top 65) l__law_some_members c__law_some_members k__law_some_members
      | .F_law_some_case => fun_mk (st := top 66) l__law_some_case c__law_some_case k__law_some_case
      | .F_law_some_book => fun_mk (st := top 67) l__law_some_book c__law_some_book k__law_some_book
      | .F_law_names => fun_mk (st := top 68) l__law_names c__law_names k__law_names
      | .F_law_wide => fun_mk (st := top 69) l__law_wide c__law_wide k__law_wide
      | .F_law_balanced => fun_mk (st := top 70) l__law_balanced c__law_balanced k__law_balanced
      | .F_law_some_bent => fun_mk (st := top 71) l__law_some_bent c__law_some_bent k__law_some_bent
      | .Flaw => fun_mk (st := top 72) l_law c_law k_law
    mgf := fun f => match f with
      | .Fis_whole => PySem.W.mg_of inK G a_is_whole
      | .Fis_decimal => PySem.W.mg_of inK G a_is_decimal
      | .Fis_high => PySem.W.mg_of inK G a_is_high
      | .Fis_low => PySem.W.mg_of inK G a_is_low
      | .Fis_point => PySem.W.mg_of inK G a_is_point
      | .Fis_points => PySem.W.mg_of inK G a_is_points
      | .Fare_items => PySem.W.mg_of inK G a_are_items
      | .Fare_members => PySem.W.mg_of inK G a_are_members
      | .Fis_value_within => PySem.W.mg_of inK G a_is_value_within
      | .Fis_value => PySem.W.mg_of inK G a_is_value
      | .Fis_test => PySem.W.mg_of inK G a_is_test
      | .Fis_pattern_within => PySem.W.mg_of inK G a_is_pattern_within
      | .Fis_pattern => PySem.W.mg_of inK G a_is_pattern
      | .Fplaces_of => PySem.W.mg_of inK G a_places_of
      | .Fis_type_name => PySem.W.mg_of inK G a_is_type_name
      | .Fare_tests_of => PySem.W.mg_of inK G a_are_tests_of
      | .Fare_triples => PySem.W.mg_of inK G a_are_triples
      | .Fis_case => PySem.W.mg_of inK G a_is_case
      | .Fcases_in => PySem.W.mg_of inK G a_cases_in
      | .Ftests_in => PySem.W.mg_of inK G a_tests_in
      | .Fpoints_in => PySem.W.mg_of inK G a_points_in
      | .Fis_book => PySem.W.mg_of inK G a_is_book
      | .Fneed_book => PySem.W.mg_of inK G a_need_book
      | .Ftests_of => PySem.W.mg_of inK G a_tests_of
      | .Fknown_of => PySem.W.mg_of inK G a_known_of
      | .F_law_begun => PySem.W.mg_of inK G a__law_begun
      | .F_law_mixed => PySem.W.mg_of inK G a__law_mixed
      | .F_law_draw => PySem.W.mg_of inK G a__law_draw
      | .F_law_pick => PySem.W.mg_of inK G a__law_pick
      | .F_law_shuffled => PySem.W.mg_of inK G a__law_shuffled
      | .F_law_number => PySem.W.mg_of inK G a__law_number
      | .F_law_some_test => PySem.W.mg_of inK G a__law_some_test
      | .F_law_some_pattern => PySem.W.mg_of inK G a__law_some_pattern
      | .F_law_some_points => PySem.W.mg_of inK G a__law_some_points
      | .F_law_some_members => PySem.W.mg_of inK G a__law_some_members
      | .F_law_some_case => PySem.W.mg_of inK G a__law_some_case
      | .F_law_some_book => PySem.W.mg_of inK G a__law_some_book
      | .F_law_names => PySem.W.mg_of inK G a__law_names
      | .F_law_wide => PySem.W.mg_of inK G a__law_wide
      | .F_law_balanced => PySem.W.mg_of inK G a__law_balanced
      | .F_law_some_bent => PySem.W.mg_of inK G a__law_some_bent
      | .Flaw => PySem.W.mg_of inK G a_law
    bind := fun f => match f with
      | .Fis_whole => (fun_mk (st := top 4) l_is_whole c_is_whole k_is_whole).binds fun _ _ _ _ _ _ us hl => match us, hl with | [_], _ => rfl
      | .Fis_decimal => (fun_mk (st := top 5) l_is_decimal c_is_decimal k_is_decimal).binds fun _ _ _ _ _ _ us hl => match us, hl with | [_], _ => rfl
      | .Fis_high => (fun_mk (st := top 12) l_is_high c_is_high k_is_high).binds fun _ _ _ _ _ _ us hl => match us, hl with | [_], _ => rfl
      | .Fis_low => (fun_mk (st := top 13) l_is_low c_is_low k_is_low).binds fun _ _ _ _ _ _ us hl => match us, hl with | [_], _ => rfl
      | .Fis_point => (fun_mk (st := top 14) l_is_point c_is_point k_is_point).binds fun _ _ _ _ _ _ us hl => match us, hl with | [_], _ => rfl
      | .Fis_points => (fun_mk (st := top 15) l_is_points c_is_points k_is_points).binds fun _ _ _ _ _ _ us hl => match us, hl with | [_], _ => rfl
      | .Fare_items => (fun_mk (st := top 19) l_are_items c_are_items k_are_items).binds fun _ _ _ _ _ _ us hl => match us, hl with | [_, _], _ => rfl
      | .Fare_members => (fun_mk (st := top 20) l_are_members c_are_members k_are_members).binds fun _ _ _ _ _ _ us hl => match us, hl with | [_, _], _ => rfl
      | .Fis_value_within => (fun_mk (st := top 21) l_is_value_within c_is_value_within k_is_value_within).binds fun _ _ _ _ _ _ us hl => match us, hl with | [_, _], _ => rfl
      | .Fis_value => (fun_mk (st := top 22) l_is_value c_is_value k_is_value).binds fun _ _ _ _ _ _ us hl => match us, hl with | [_], _ => rfl
      | .Fis_test => (fun_mk (st := top 27) l_is_test c_is_test k_is_test).binds fun _ _ _ _ _ _ us hl => match us, hl with | [_], _ => rfl
      | .Fis_pattern_within => (fun_mk (st := top 32) l_is_pattern_within c_is_pattern_within k_is_pattern_within).binds fun _ _ _ _ _ _ us hl => match us, hl with | [_, _, _], _ => rfl
      | .Fis_pattern => (fun_mk (st := top 33) l_is_pattern c_is_pattern k_is_pattern).binds fun _ _ _ _ _ _ us hl => match us, hl with | [_, _], _ => rfl
      | .Fplaces_of => (fun_mk (st := top 34) l_places_of c_places_of k_places_of).binds fun _ _ _ _ _ _ us hl => match us, hl with | [_], _ => rfl
      | .Fis_type_name => (fun_mk (st := top 44) l_is_type_name c_is_type_name k_is_type_name).binds fun _ _ _ _ _ _ us hl => match us, hl with | [_], _ => rfl
      | .Fare_tests_of => (fun_mk (st := top 45) l_are_tests_of c_are_tests_of k_are_tests_of).binds fun _ _ _ _ _ _ us hl => match us, hl with | [_, _], _ => rfl
      | .Fare_triples => (fun_mk (st := top 46) l_are_triples c_are_triples k_are_triples).binds fun _ _ _ _ _ _ us hl => match us, hl with | [_, _], _ => rfl
      | .Fis_case => (fun_mk (st := top 47) l_is_case c_is_case k_is_case).binds fun _ _ _ _ _ _ us hl => match us, hl with | [_, _], _ => rfl
      | .Fcases_in => (fun_mk (st := top 48) l_cases_in c_cases_in k_cases_in).binds fun _ _ _ _ _ _ us hl => match us, hl with | [_], _ => rfl
      | .Ftests_in => (fun_mk (st := top 49) l_tests_in c_tests_in k_tests_in).binds fun _ _ _ _ _ _ us hl => match us, hl with | [_], _ => rfl
      | .Fpoints_in => (fun_mk (st := top 50) l_points_in c_points_in k_points_in).binds fun _ _ _ _ _ _ us hl => match us, hl with | [_], _ => rfl
      | .Fis_book => (fun_mk (st := top 51) l_is_book c_is_book k_is_book).binds fun _ _ _ _ _ _ us hl => match us, hl with | [_], _ => rfl
      | .Fneed_book => (fun_mk (st := top 52) l_need_book c_need_book k_need_book).binds fun _ _ _ _ _ _ us hl => match us, hl with | [_], _ => rfl
      | .Ftests_of => (fun_mk (st := top 53) l_tests_of c_tests_of k_tests_of).binds fun _ _ _ _ _ _ us hl => match us, hl with | [_], _ => rfl
      | .Fknown_of => (fun_mk (st := top 54) l_known_of c_known_of k_known_of).binds fun _ _ _ _ _ _ us hl => match us, hl with | [_], _ => rfl
      | .F_law_begun => (fun_mk (st := top 56) l__law_begun c__law_begun k__law_begun).binds fun _ _ _ _ _ _ us hl => match us, hl with | [_], _ => rfl
      | .F_law_mixed => (fun_mk (st := top 57) l__law_mixed c__law_mixed k__law_mixed).binds fun _ _ _ _ _ _ us hl => match us, hl with | [_], _ => rfl
      | .F_law_draw => (fun_mk (st := top 58) l__law_draw c__law_draw k__law_draw).binds fun _ _ _ _ _ _ us hl => match us, hl with | [_, _], _ => rfl
      | .F_law_pick => (fun_mk (st := top 59) l__law_pick c__law_pick k__law_pick).binds fun _ _ _ _ _ _ us hl => match us, hl with | [_, _], _ => rfl
      | .F_law_shuffled => (fun_mk (st := top 60) l__law_shuffled c__law_shuffled k__law_shuffled).binds fun _ _ _ _ _ _ us hl => match us, hl with | [_, _], _ => rfl
      | .F_law_number => (fun_mk (st := top 61) l__law_number c__law_number k__law_number).binds fun _ _ _ _ _ _ us hl => match us, hl with | [_, _], _ => rfl
      | .F_law_some_test => (fun_mk (st := top 62) l__law_some_test c__law_some_test k__law_some_test).binds fun _ _ _ _ _ _ us hl => match us, hl with | [_, _], _ => rfl
      | .F_law_some_pattern => (fun_mk (st := top 63) l__law_some_pattern c__law_some_pattern k__law_some_pattern).binds fun _ _ _ _ _ _ us hl => match us, hl with | [_, _, _], _ => rfl
      | .F_law_some_points => (fun_mk (st := top 64) l__law_some_points c__law_some_points k__law_some_points).binds fun _ _ _ _ _ _ us hl => match us, hl with | [_], _ => rfl
      | .F_law_some_members => (fun_mk (st := top 65) l__law_some_members c__law_some_members k__law_some_members).binds fun _ _ _ _ _ _ us hl => match us, hl with | [_, _], _ => rfl
      | .F_law_some_case => (fun_mk (st := top 66) l__law_some_case c__law_some_case k__law_some_case).binds fun _ _ _ _ _ _ us hl => match us, hl with | [_, _, _], _ => rfl
      | .F_law_some_book => (fun_mk (st := top 67) l__law_some_book c__law_some_book k__law_some_book).binds fun _ _ _ _ _ _ us hl => match us, hl with | [_, _], _ => rfl
      | .F_law_names => (fun_mk (st := top 68) l__law_names c__law_names k__law_names).binds fun _ _ _ _ _ _ us hl => match us, hl with | [_], _ => rfl
      | .F_law_wide => (fun_mk (st := top 69) l__law_wide c__law_wide k__law_wide).binds fun _ _ _ _ _ _ us hl => match us, hl with | [_, _], _ => rfl
      | .F_law_balanced => (fun_mk (st := top 70) l__law_balanced c__law_balanced k__law_balanced).binds fun _ _ _ _ _ _ us hl => match us, hl with | [_], _ => rfl
      | .F_law_some_bent => (fun_mk (st := top 71) l__law_some_bent c__law_some_bent k__law_some_bent).binds fun _ _ _ _ _ _ us hl => match us, hl with | [_, _], _ => rfl
      | .Flaw => (fun_mk (st := top 72) l_law c_law k_law).binds fun _ _ _ _ _ _ us hl => match us, hl with | [_], _ => rfl
    n_abs := PySem.W.mg_none_of inK G n_abs
    n_all := PySem.W.mg_none_of inK G n_all
    n_any := PySem.W.mg_none_of inK G n_any
    n_bool := PySem.W.mg_none_of inK G n_bool
    n_dict := PySem.W.mg_none_of inK G n_dict
    n_int := PySem.W.mg_none_of inK G n_int
    n_isinstance := PySem.W.mg_none_of inK G n_isinstance
    n_len := PySem.W.mg_none_of inK G n_len
    n_list := PySem.W.mg_none_of inK G n_list
    n_range := PySem.W.mg_none_of inK G n_range
    n_set := PySem.W.mg_none_of inK G n_set
    n_sorted := PySem.W.mg_none_of inK G n_sorted
    n_str := PySem.W.mg_none_of inK G n_str
    n_tuple := PySem.W.mg_none_of inK G n_tuple
    n_zip := PySem.W.mg_none_of inK G n_zip
    c_FIRST_HIGH := ⟨_, PySem.W.mg_of inK G x_FIRST_HIGH⟩
    c_FIRST_LOW := ⟨_, PySem.W.mg_of inK G x_FIRST_LOW⟩
    c_LAST_HIGH := ⟨_, PySem.W.mg_of inK G x_LAST_HIGH⟩
    c_LAST_LOW := ⟨_, PySem.W.mg_of inK G x_LAST_LOW⟩
    c_LETTERS := ⟨_, PySem.W.mg_of inK G x_LETTERS⟩
    c_MOST_CASES := ⟨_, PySem.W.mg_of inK G x_MOST_CASES⟩
    c_MOST_ITEMS := ⟨_, PySem.W.mg_of inK G x_MOST_ITEMS⟩
    c_MOST_KNOWN := ⟨_, PySem.W.mg_of inK G x_MOST_KNOWN⟩
    c_MOST_LETTERS := ⟨_, PySem.W.mg_of inK G x_MOST_LETTERS⟩
    c_MOST_LEVELS := ⟨_, PySem.W.mg_of inK G x_MOST_LEVELS⟩
    c_MOST_MEMBERS := ⟨_, PySem.W.mg_of inK G x_MOST_MEMBERS⟩
    c_MOST_NAMES := ⟨_, PySem.W.mg_of inK G x_MOST_NAMES⟩
    c_MOST_NESTED := ⟨_, PySem.W.mg_of inK G x_MOST_NESTED⟩
    c_MOST_POINT := ⟨_, PySem.W.mg_of inK G x_MOST_POINT⟩
    c_MOST_TESTS := ⟨_, PySem.W.mg_of inK G x_MOST_TESTS⟩
    c_NUMBER := ⟨_, PySem.W.mg_of inK G x_NUMBER⟩
    c_STRING := ⟨_, PySem.W.mg_of inK G x_STRING⟩
    g_DUES := ⟨_, PySem.W.mg_of inK G m_DUES, by subst v_DUES; exact ⟨_, _, _, o_DUES, rfl, rfl, (by show 2 ≤ sizeLine; decide), .cons ⟨_, rfl⟩ (.cons ⟨_, rfl⟩ (.nil))⟩⟩
    g_SIGNS := ⟨_, PySem.W.mg_of inK G m_SIGNS, by subst v_SIGNS; exact ⟨_, _, _, o_SIGNS, rfl, rfl, (by show 5 ≤ sizeLine; decide), .cons ⟨_, rfl⟩ (.cons ⟨_, rfl⟩ (.cons ⟨_, rfl⟩ (.cons ⟨_, rfl⟩ (.cons ⟨_, rfl⟩ (.nil)))))⟩⟩
    g_WORDS := ⟨_, PySem.W.mg_of inK G m_WORDS, by subst v_WORDS; exact ⟨_, _, _, o_WORDS, rfl, rfl, (by show 3 ≤ sizeLine; decide), .cons ⟨_, rfl⟩ (.cons ⟨_, rfl⟩ (.cons ⟨_, rfl⟩ (.nil)))⟩⟩
    kw_is_book := fun s us hl => match us, hl with | [_], _ => .of_eq rfl
  }
  have U2 : Kds K w mg d_PARTS := {
    kd_PARTS := ⟨_, _, ⟨o_PARTS, y_PARTS, s_PARTS⟩⟩
    kn_PARTS := fun p hp => by
      simp only [kn_PARTS, List.mem_cons, List.not_mem_nil, or_false] at hp
      rcases hp with rfl | rfl | rfl | rfl | rfl
      · exact ⟨_, .int 1, e_PARTS_0, ⟨_, rfl⟩, std_int⟩
      · exact ⟨_, .int 2, e_PARTS_1, ⟨_, rfl⟩, std_int⟩
      · exact ⟨_, .int 3, e_PARTS_2, ⟨_, rfl⟩, std_int⟩
      · exact ⟨_, .int 3, e_PARTS_3, ⟨_, rfl⟩, std_int⟩
      · exact ⟨_, .int 2, e_PARTS_4, ⟨_, rfl⟩, std_int⟩
    mg_PARTS := PySem.W.mg_of inK G m_PARTS
    triv := trivial
  }
  exact ⟨(PySem.W.fnOf "law" "law" (defArgs (top 72)) (defBody (top 72)) (defScope (top 72)) .none kV_law dc_law pm_law an_law cd_law ct_law), [], fun p hp => absurd hp List.not_mem_nil, fun p hp => absurd hp List.not_mem_nil, fun p hp => absurd hp List.not_mem_nil, fun s v => .of_eq rfl, fun base _ _ _ => all_ok U U2 k .Flaw⟩
end K37


namespace K37
open PySem Mx
/-- laps of a loop at most -/
def L0 : Nat := 1000000
def tb (k : Nat) : Fn → List D → M D := tab L0 k
theorem t_b_is_whole (k : Nat) : tb (k + 1) .Fis_whole = fnD 1 1 (b_is_whole L0 (tb k)) := by unfold tb; rw [tab]
theorem t_b_is_decimal (k : Nat) : tb (k + 1) .Fis_decimal = fnD 1 1 (b_is_decimal L0 (tb k)) := by unfold tb; rw [tab]
theorem t_b_is_high (k : Nat) : tb (k + 1) .Fis_high = fnD 1 1 (b_is_high L0 (tb k)) := by unfold tb; rw [tab]
theorem t_b_is_low (k : Nat) : tb (k + 1) .Fis_low = fnD 1 1 (b_is_low L0 (tb k)) := by unfold tb; rw [tab]
theorem t_b_is_point (k : Nat) : tb (k + 1) .Fis_point = fnD 1 1 (b_is_point L0 (tb k)) := by unfold tb; rw [tab]
theorem t_b_is_points (k : Nat) : tb (k + 1) .Fis_points = fnD 1 4 (b_is_points L0 (tb k)) := by unfold tb; rw [tab]
theorem t_b_are_items (k : Nat) : tb (k + 1) .Fare_items = fnD 2 3 (b_are_items L0 (tb k)) := by unfold tb; rw [tab]
theorem t_b_are_members (k : Nat) : tb (k + 1) .Fare_members = fnD 2 4 (b_are_members L0 (tb k)) := by unfold tb; rw [tab]
theorem t_b_is_value_within (k : Nat) : tb (k + 1) .Fis_value_within = fnD 2 4 (b_is_value_within L0 (tb k)) := by unfold tb; rw [tab]
theorem t_b_is_value (k : Nat) : tb (k + 1) .Fis_value = fnD 1 1 (b_is_value L0 (tb k)) := by unfold tb; rw [tab]
theorem t_b_is_test (k : Nat) : tb (k + 1) .Fis_test = fnD 1 1 (b_is_test L0 (tb k)) := by unfold tb; rw [tab]
theorem t_b_is_pattern_within (k : Nat) : tb (k + 1) .Fis_pattern_within = fnD 3 4 (b_is_pattern_within L0 (tb k)) := by unfold tb; rw [tab]
theorem t_b_is_pattern (k : Nat) : tb (k + 1) .Fis_pattern = fnD 2 2 (b_is_pattern L0 (tb k)) := by unfold tb; rw [tab]
theorem t_b_places_of (k : Nat) : tb (k + 1) .Fplaces_of = fnD 1 3 (b_places_of L0 (tb k)) := by unfold tb; rw [tab]
theorem t_b_is_type_name (k : Nat) : tb (k + 1) .Fis_type_name = fnD 1 2 (b_is_type_name L0 (tb k)) := by unfold tb; rw [tab]
theorem t_b_are_tests_of (k : Nat) : tb (k + 1) .Fare_tests_of = fnD 2 3 (b_are_tests_of L0 (tb k)) := by unfold tb; rw [tab]
theorem t_b_are_triples (k : Nat) : tb (k + 1) .Fare_triples = fnD 2 4 (b_are_triples L0 (tb k)) := by unfold tb; rw [tab]
theorem t_b_is_case (k : Nat) : tb (k + 1) .Fis_case = fnD 2 2 (b_is_case L0 (tb k)) := by unfold tb; rw [tab]
theorem t_b_cases_in (k : Nat) : tb (k + 1) .Fcases_in = fnD 1 4 (b_cases_in L0 (tb k)) := by unfold tb; rw [tab]
theorem t_b_tests_in (k : Nat) : tb (k + 1) .Ftests_in = fnD 1 4 (b_tests_in L0 (tb k)) := by unfold tb; rw [tab]
theorem t_b_points_in (k : Nat) : tb (k + 1) .Fpoints_in = fnD 1 5 (b_points_in L0 (tb k)) := by unfold tb; rw [tab]
theorem t_b_is_book (k : Nat) : tb (k + 1) .Fis_book = fnD 1 4 (b_is_book L0 (tb k)) := by unfold tb; rw [tab]
theorem t_b_need_book (k : Nat) : tb (k + 1) .Fneed_book = fnD 1 1 (b_need_book L0 (tb k)) := by unfold tb; rw [tab]
theorem t_b_tests_of (k : Nat) : tb (k + 1) .Ftests_of = fnD 1 1 (b_tests_of L0 (tb k)) := by unfold tb; rw [tab]
theorem t_b_known_of (k : Nat) : tb (k + 1) .Fknown_of = fnD 1 1 (b_known_of L0 (tb k)) := by unfold tb; rw [tab]
theorem t_b__law_begun (k : Nat) : tb (k + 1) .F_law_begun = fnD 1 3 (b__law_begun L0 (tb k)) := by unfold tb; rw [tab]
theorem t_b__law_mixed (k : Nat) : tb (k + 1) .F_law_mixed = fnD 1 6 (b__law_mixed L0 (tb k)) := by unfold tb; rw [tab]
theorem t_b__law_draw (k : Nat) : tb (k + 1) .F_law_draw = fnD 2 3 (b__law_draw L0 (tb k)) := by unfold tb; rw [tab]
theorem t_b__law_pick (k : Nat) : tb (k + 1) .F_law_pick = fnD 2 2 (b__law_pick L0 (tb k)) := by unfold tb; rw [tab]
theorem t_b__law_shuffled (k : Nat) : tb (k + 1) .F_law_shuffled = fnD 2 4 (b__law_shuffled L0 (tb k)) := by unfold tb; rw [tab]
theorem t_b__law_number (k : Nat) : tb (k + 1) .F_law_number = fnD 2 2 (b__law_number L0 (tb k)) := by unfold tb; rw [tab]
theorem t_b__law_some_test (k : Nat) : tb (k + 1) .F_law_some_test = fnD 2 3 (b__law_some_test L0 (tb k)) := by unfold tb; rw [tab]
theorem t_b__law_some_pattern (k : Nat) : tb (k + 1) .F_law_some_pattern = fnD 3 4 (b__law_some_pattern L0 (tb k)) := by unfold tb; rw [tab]
theorem t_b__law_some_points (k : Nat) : tb (k + 1) .F_law_some_points = fnD 1 1 (b__law_some_points L0 (tb k)) := by unfold tb; rw [tab]
theorem t_b__law_some_members (k : Nat) : tb (k + 1) .F_law_some_members = fnD 2 6 (b__law_some_members L0 (tb k)) := by unfold tb; rw [tab]
theorem t_b__law_some_case (k : Nat) : tb (k + 1) .F_law_some_case = fnD 3 8 (b__law_some_case L0 (tb k)) := by unfold tb; rw [tab]
theorem t_b__law_some_book (k : Nat) : tb (k + 1) .F_law_some_book = fnD 2 8 (b__law_some_book L0 (tb k)) := by unfold tb; rw [tab]
theorem t_b__law_names (k : Nat) : tb (k + 1) .F_law_names = fnD 1 2 (b__law_names L0 (tb k)) := by unfold tb; rw [tab]
theorem t_b__law_wide (k : Nat) : tb (k + 1) .F_law_wide = fnD 2 7 (b__law_wide L0 (tb k)) := by unfold tb; rw [tab]
theorem t_b__law_balanced (k : Nat) : tb (k + 1) .F_law_balanced = fnD 1 1 (b__law_balanced L0 (tb k)) := by unfold tb; rw [tab]
theorem t_b__law_some_bent (k : Nat) : tb (k + 1) .F_law_some_bent = fnD 2 9 (b__law_some_bent L0 (tb k)) := by unfold tb; rw [tab]
theorem t_b_law (k : Nat) : tb (k + 1) .Flaw = fnD 1 10 (b_law L0 (tb k)) := by unfold tb; rw [tab]
end K37


namespace K37
open PySem Mx
/-- patterns over names -/
inductive Pat (α : Type) where
  | none | item (a : α) | row (p q : Pat α) | either (p q : Pat α) | many (p : Pat α)
  deriving DecidableEq
namespace Pat
variable {α : Type}
def deep : Pat α → Nat
  | .none => 1
  | .item _ => 1
  | .row p q => 1 + max p.deep q.deep
  | .either p q => 1 + max p.deep q.deep
  | .many p => 1 + p.deep
def items : Pat α → List α
  | .none => []
  | .item a => [a]
  | .row p q => p.items ++ q.items
  | .either p q => p.items ++ q.items
  | .many p => p.items
def toD (f : α → Str) : Pat α → D
  | .none => .tup [.str "none"]
  | .item a => .tup [.str "item", .str (f a)]
  | .row p q => .tup [.str "row", p.toD f, q.toD f]
  | .either p q => .tup [.str "either", p.toD f, q.toD f]
  | .many p => .tup [.str "many", p.toD f]
end Pat
theorem big0 {n : Nat} (h : n ≤ 100000) : n < L0 + 0 := Nat.lt_of_le_of_lt h (by unfold L0; decide)
theorem ok_none : PyData.strOk "none" = true := by decide +kernel
theorem ok_item : PyData.strOk "item" = true := by decide +kernel
theorem ok_row : PyData.strOk "row" = true := by decide +kernel
theorem ok_either : PyData.strOk "either" = true := by decide +kernel
theorem ok_many : PyData.strOk "many" = true := by decide +kernel
theorem ne_ni : decide (("none" : Str) = "item") = false := by decide +kernel
theorem ne_ri : decide (("row" : Str) = "item") = false := by decide +kernel
theorem ne_ei : decide (("either" : Str) = "item") = false := by decide +kernel
theorem ne_mi : decide (("many" : Str) = "item") = false := by decide +kernel
theorem eq_ii : decide (("item" : Str) = "item") = true := by decide +kernel

theorem sz {n : Nat} (h : n ≤ 1000) : n ≤ sizeLine := Nat.le_trans h (by rw [sizeLine_eq]; decide)
@[simp] theorem q_ni {st : S} {Q : D → S → Prop} : Rn (eqO (.str "none") (.str "item")) st Q = Q (.bl false) st := by rw [run_eqS ok_none ok_item, ne_ni]
@[simp] theorem q_ii {st : S} {Q : D → S → Prop} : Rn (eqO (.str "item") (.str "item")) st Q = Q (.bl true) st := by rw [run_eqS ok_item ok_item, eq_ii]
@[simp] theorem q_ri {st : S} {Q : D → S → Prop} : Rn (eqO (.str "row") (.str "item")) st Q = Q (.bl false) st := by rw [run_eqS ok_row ok_item, ne_ri]
@[simp] theorem q_ei {st : S} {Q : D → S → Prop} : Rn (eqO (.str "either") (.str "item")) st Q = Q (.bl false) st := by rw [run_eqS ok_either ok_item, ne_ei]
@[simp] theorem q_mi {st : S} {Q : D → S → Prop} : Rn (eqO (.str "many") (.str "item")) st Q = Q (.bl false) st := by rw [run_eqS ok_many ok_item, ne_mi]
theorem places_item (k : Nat) (a : Str) : Gv (tb (k + 1) .Fplaces_of [.tup [.str "item", .str a]]) (.tup [.str a]) := gv_of fun st => by
  rw [t_b_places_of]
  simp [b_places_of, q_ii, sz]
theorem flat_take {β γ : Type} (xs : List β) (f : β → List γ) (i : Nat) : ((xs.take i).flatMap f).length ≤ (xs.flatMap f).length := by
  have e : xs.flatMap f = (xs.take i).flatMap f ++ (xs.drop i).flatMap f := by rw [← List.flatMap_append, List.take_append_drop]
  rw [e, List.length_append]
  exact Nat.le_add_right _ _
theorem flat_step {β γ : Type} {xs : List β} (f : β → List γ) {i : Nat} {d : β} (h : xs[i]? = some d) : (xs.take (i + 1)).flatMap f = (xs.take i).flatMap f ++ f d := by
  rw [List.take_add_one, h, List.flatMap_append]
  simp
theorem lt0 {n : Nat} (h : n ≤ 1000) : n < L0 + 0 := big0 (Nat.le_trans h (by decide))
/-- the loop of a def that gathers over the parts -/
theorem places_row (k : Nat) (h : Str) (prs : List (D × List D)) (hq : ∀ {st : S} {Q : D → S → Prop}, Rn (eqO (.str h) (.str "item")) st Q = Q (.bl false) st) (hx : ∀ x ∈ prs, Gv (tb k .Fplaces_of [x.1]) (.tup x.2)) (hn : prs.length ≤ 1000) (hz : (prs.flatMap (·.2)).length ≤ 1000) :
    Gv (tb (k + 1) .Fplaces_of [.tup (.str h :: prs.map (·.1))]) (.tup (prs.flatMap (·.2))) := gv_of fun st => by
  rw [t_b_places_of]
  simp [b_places_of, hq]
  refine run_for (ds := prs.map (·.1)) (fun i es s => ∃ (o : Option D) (ex : S), es = [some (.tup (.str h :: prs.map (·.1))), some (.tup ((prs.take i).flatMap (·.2))), o] ∧ s = st ++ ex) (fun i es s _ => rfl) ?_ ?_ _ _ _ _ ?_ ?_ ?_
  · rintro i d es s hd ⟨o, ex, rfl, rfl⟩
    obtain ⟨x, hx1, rfl⟩ : ∃ x, prs[i]? = some x ∧ x.1 = d := by
      rw [List.getElem?_map] at hd
      cases e : prs[i]? with
      | none => rw [e] at hd; cases hd
      | some x => rw [e] at hd; exact ⟨x, rfl, Option.some.inj hd⟩
    simp
    refine (hx x (List.mem_of_getElem? hx1)).run fun ex2 => ?_
    have e1 := flat_step (·.2) hx1
    have e2 := flat_take prs (·.2) (i + 1)
    rw [e1, List.length_append] at e2
    simp [e1, -List.length_flatMap]
    exact sz (by omega)
  · rintro es s ⟨o, ex, rfl, rfl⟩
    simp
  · exact lt0 (by rw [List.length_map]; exact hn)
  · exact Nat.zero_le _
  · exact ⟨none, [], rfl, by simp⟩
variable {α : Type} {f : α → Str}
def Pat.its (p : Pat α) (f : α → Str) : List D := p.items.map fun a => .str (f a)
theorem places_of (f : α → Str) : ∀ (p : Pat α) (k : Nat), p.deep ≤ k → p.items.length ≤ 1000 → Gv (tb k .Fplaces_of [p.toD f]) (.tup (p.its f))
  | p, 0, h, _ => by cases p <;> simp [Pat.deep] at h <;> omega
  | .none, k + 1, _, _ => places_row k "none" [] q_ni (fun x hx => by cases hx) (by decide) (by decide)
  | .item a, k + 1, _, _ => places_item k (f a)
  | .row p q, k + 1, h, hz => by
    have h1 : max p.deep q.deep ≤ k := by unfold Pat.deep at h; omega
    have hz1 : p.items.length + q.items.length ≤ 1000 := by unfold Pat.items at hz; rw [List.length_append] at hz; exact hz
    have e := places_row k "row" [(p.toD f, p.its f), (q.toD f, q.its f)] q_ri (fun x hx => by
      simp at hx
      rcases hx with rfl | rfl
      · exact places_of f p k (by omega) (by omega)
      · exact places_of f q k (by omega) (by omega)) (by simp) (by simp [Pat.its]; omega)
    simpa [Pat.its, Pat.items, Pat.toD] using e
  | .either p q, k + 1, h, hz => by
    have h1 : max p.deep q.deep ≤ k := by unfold Pat.deep at h; omega
    have hz1 : p.items.length + q.items.length ≤ 1000 := by unfold Pat.items at hz; rw [List.length_append] at hz; exact hz
    have e := places_row k "either" [(p.toD f, p.its f), (q.toD f, q.its f)] q_ei (fun x hx => by
      simp at hx
      rcases hx with rfl | rfl
      · exact places_of f p k (by omega) (by omega)
      · exact places_of f q k (by omega) (by omega)) (by simp) (by simp [Pat.its]; omega)
    simpa [Pat.its, Pat.items, Pat.toD] using e
  | .many p, k + 1, h, hz => by
    have h1 : p.deep ≤ k := by unfold Pat.deep at h; omega
    have e := places_row k "many" [(p.toD f, p.its f)] q_mi (fun x hx => by
      simp at hx
      subst hx
      exact places_of f p k h1 hz) (by simp) (by simpa [Pat.its, Pat.items] using hz)
    simpa [Pat.its, Pat.items, Pat.toD] using e
open L2 (Key)
theorem mapO_mono {α β : Type} {f g : α → Option β} (h : ∀ x y, f x = some y → g x = some y) : ∀ {xs : List α} {ys : List β}, mapO f xs = some ys → mapO g xs = some ys
  | [], _, e => e
  | x :: xs, ys, e => by
    unfold mapO at e ⊢
    cases e1 : f x with
    | none => rw [e1] at e; cases e
    | some y =>
      rw [e1] at e
      rw [h x y e1]
      cases e2 : mapO f xs with
      | none => rw [e2] at e; cases e
      | some zs =>
        rw [e2] at e
        rw [mapO_mono h e2]
        exact e
theorem toPy_pure : ∀ {n : Nat} {d : D} {p : PyData}, toPy [] n d = some p → ∀ {m : Nat} {st : S}, n ≤ m → toPy st m d = some p
  | 0, d, p, h, _, _, _ => by cases d <;> cases h
  | n + 1, d, p, h, 0, _, hm => by omega
  | n + 1, d, p, h, m + 1, st, hm => by
    have ih : ∀ x y, toPy [] n x = some y → toPy st m x = some y := fun x y e => toPy_pure e (by omega)
    cases d with
    | tup ds =>
      unfold toPy at h ⊢
      cases e : mapO (toPy [] n) ds with
      | none => rw [e] at h; cases h
      | some ps => rw [e] at h; rw [mapO_mono ih e]; exact h
    | rot ds =>
      unfold toPy at h ⊢
      cases e : mapO (toPy [] n) ds with
      | none => rw [e] at h; cases h
      | some ps => rw [e] at h; rw [mapO_mono ih e]; exact h
    | rol ds =>
      unfold toPy at h ⊢
      cases e : mapO (toPy [] n) ds with
      | none => rw [e] at h; cases h
      | some ps => rw [e] at h; rw [mapO_mono ih e]; exact h
    | ref k => cases h
    | _ => exact h
namespace Pat
section
variable {α : Type} [DecidableEq α]
def hollow : Pat α → Bool
  | .none => true
  | .item _ => false
  | .row p q => p.hollow && q.hollow
  | .either p q => p.hollow || q.hollow
  | .many _ => true
def lst : Pat α → List α
  | .none => []
  | .item a => [a]
  | .row p q => q.lst ++ if q.hollow then p.lst else []
  | .either p q => p.lst ++ q.lst
  | .many p => p.lst
end
section
variable {α : Type} [DecidableEq α]
/-- n whole numbers from i on -/
def run (i : Int) : Nat → List Int
  | 0 => []
  | n + 1 => i :: run (i + 1) n
end
end Pat
open L2 (Key)
section
variable {st : S} {Q : D → S → Prop} {kvs : List (Key × D)} {xs : List D} {n : Nat}
theorem rn_congr {α : Type} {m m' : M α} {QA : α → S → Prop} (h : m st = m' st) : Rn m st QA = Rn m' st QA := by unfold Rn; rw [h]
@[simp] theorem run_setK {o i : Es → M D} {d : D} {es : Es} {QE : Es → S → Prop} : Rn (subG o i d es) st QE = Rn (o es) st fun x s => Rn (i es) s fun y s2 => Rn (setD x y d) s2 fun _ s3 => QE es s3 := by
  unfold subG
  repeat (first | rfl | rw [run_bind] | simp only [run_guard, run_new, run_pure, decide_eq_true_eq] | refine Rn_q (funext fun _ => funext fun _ => ?_))
@[simp] theorem run_star2 {a b : Es → M D} {es : Es} : Rn (star2D a b es) st Q = Rn (a es) st fun x s => Rn (dicOfD x) s fun kx s2 => Rn (b es) s2 fun y s3 => Rn (dicOfD y) s3 fun ky s4 => (kx.length + ky.length ≤ sizeLine ∧ Q (.ref s4.length) (s4 ++ [.dic (merge (merge [] kx) ky)])) := by
  unfold star2D
  repeat (first | rfl | rw [run_bind] | simp only [run_guard, run_new, run_pure, decide_eq_true_eq] | refine Rn_q (funext fun _ => funext fun _ => ?_))
@[simp] theorem run_emptyD {es : Es} : Rn (emptyD es) st Q = Q (.ref st.length) (st ++ [.dic []]) := rfl
theorem ga {ex : S} {o : O} (h : st[n]? = some o) : (st ++ ex)[n]? = some o := by
  have := (List.getElem?_eq_some_iff.mp h).1
  rw [List.getElem?_append_left this]
  exact h
theorem gn {o : O} : (st ++ [o])[st.length]? = some o := by simp
end
@[simp] theorem q_nn {st : S} {Q : D → S → Prop} : Rn (eqO (.str "none") (.str "none")) st Q = Q (.bl true) st := by rw [run_eqS ok_none ok_none]; simp
@[simp] theorem q_in {st : S} {Q : D → S → Prop} : Rn (eqO (.str "item") (.str "none")) st Q = Q (.bl false) st := by rw [run_eqS ok_item ok_none, show decide (("item" : Str) = "none") = false by decide +kernel]
@[simp] theorem q_rn {st : S} {Q : D → S → Prop} : Rn (eqO (.str "row") (.str "none")) st Q = Q (.bl false) st := by rw [run_eqS ok_row ok_none, show decide (("row" : Str) = "none") = false by decide +kernel]
@[simp] theorem q_en {st : S} {Q : D → S → Prop} : Rn (eqO (.str "either") (.str "none")) st Q = Q (.bl false) st := by rw [run_eqS ok_either ok_none, show decide (("either" : Str) = "none") = false by decide +kernel]
@[simp] theorem q_mn {st : S} {Q : D → S → Prop} : Rn (eqO (.str "many") (.str "none")) st Q = Q (.bl false) st := by rw [run_eqS ok_many ok_none, show decide (("many" : Str) = "none") = false by decide +kernel]
@[simp] theorem q_rm {st : S} {Q : D → S → Prop} : Rn (eqO (.str "row") (.str "many")) st Q = Q (.bl false) st := by rw [run_eqS ok_row ok_many, show decide (("row" : Str) = "many") = false by decide +kernel]
@[simp] theorem q_em {st : S} {Q : D → S → Prop} : Rn (eqO (.str "either") (.str "many")) st Q = Q (.bl false) st := by rw [run_eqS ok_either ok_many, show decide (("either" : Str) = "many") = false by decide +kernel]
@[simp] theorem q_mm {st : S} {Q : D → S → Prop} : Rn (eqO (.str "many") (.str "many")) st Q = Q (.bl true) st := by rw [run_eqS ok_many ok_many]; simp
@[simp] theorem q_rr {st : S} {Q : D → S → Prop} : Rn (eqO (.str "row") (.str "row")) st Q = Q (.bl true) st := by rw [run_eqS ok_row ok_row]; simp
@[simp] theorem q_er {st : S} {Q : D → S → Prop} : Rn (eqO (.str "either") (.str "row")) st Q = Q (.bl false) st := by rw [run_eqS ok_either ok_row, show decide (("either" : Str) = "row") = false by decide +kernel]
@[simp] theorem q_rg {st : S} {Q : D → S → Prop} : Rn (eqO (.str "row") (.str "either")) st Q = Q (.bl false) st := by rw [run_eqS ok_row ok_either, show decide (("row" : Str) = "either") = false by decide +kernel]
@[simp] theorem q_eg {st : S} {Q : D → S → Prop} : Rn (eqO (.str "either") (.str "either")) st Q = Q (.bl true) st := by rw [run_eqS ok_either ok_either]; simp
open L2 (Key)
theorem sz3 {n : Nat} (h : n ≤ 10000) : n < sizeLine := Nat.lt_of_lt_of_le (by omega : n < 10001) (Nat.le_trans (by decide : 10001 ≤ 20000) (by rw [sizeLine_eq]; decide))
open L2 (Key)
variable {α : Type} [DecidableEq α] (f : α → Str)
theorem deep_pos : ∀ p : Pat α, 1 ≤ p.deep := fun p => by cases p <;> simp [Pat.deep]
open L2 (Key)
section
variable {st : S} {Q : D → S → Prop} {xs : List D} {n : Nat} {es : Es}
@[simp] theorem intsOf_map : ∀ l : List Int, intsOf (l.map .int) = some l
  | [] => rfl
  | i :: l => by rw [List.map_cons, intsOf, intsOf_map l]
@[simp] theorem run_sset {me : Es → M D} : Rn (ssetD me es) st Q = Rn (me es) st fun x s => match x with
    | .tup ds => match intsOf ds with
      | some ns => ns.length < 64 ∧ Q (.ref s.length) (s ++ [.lst ((uniqI ns).map .int)])
      | none => False
    | _ => False := by
  unfold ssetD
  rw [run_bind]
  refine Rn_q (funext fun x => funext fun s => ?_)
  cases x with
  | tup ds =>
    dsimp only
    cases e : intsOf ds with
    | none => rfl
    | some ns =>
      dsimp only
      rw [run_bind, run_guard, decide_eq_true_eq]
      rfl
  | _ => rfl
theorem run_tupR (h : st[n]? = some (.lst xs)) : Rn (on1 tupleD [.ref n]) st Q = Q (.tup xs) st := by
  show Rn (lstAt n >>= _) st Q = _
  have e : lstAt n st = some (xs, st) := by unfold lstAt; rw [h]
  rw [run_bind, run_some e]
  rfl
@[simp] theorem run_tupN : Rn (on1 tupleD [.ref st.length]) (st ++ [.lst xs]) Q = Q (.tup xs) (st ++ [.lst xs]) := run_tupR gn
@[simp] theorem run_rng {me : Es → M D} {QR : Src → S → Prop} : Rn (rng1S me es) st QR = Rn (me es) st fun x s => match x with
    | .int j => small62 j = true ∧ QR (.rng 0 j.toNat) s
    | _ => False := by
  unfold rng1S
  rw [run_bind]
  refine Rn_q (funext fun x => funext fun s => ?_)
  cases x with
  | int j => simp only [run_bind, run_guard, run_pure]
  | _ => rfl
theorem seq_at {ds : List D} {i : Nat} : (Src.seq ds).at st i = lapOf ds[i]? := rfl
theorem live_at (h : st[n]? = some (.lst xs)) {i : Nat} : (Src.live n).at st i = lapOf xs[i]? := by
  show liveAt i st[n]? = _
  rw [h]
  rfl
theorem run_live {QR : Src → S → Prop} (h : st[n]? = some (.lst xs)) : Rn (seqSrc (.ref n)) st QR = QR (.live n) st := run_some (by
  show (match st[n]? with | some (.lst _) => some (Src.live n, st) | _ => none) = _
  rw [h])
@[simp] theorem run_yes {QB : Bool → S → Prop} : Rn (yesT es) st QB = QB true st := rfl
end
theorem memR {n i : Nat} {d : D} {l : List Int} (h : (l.map D.int)[n]? = some d) : ∃ i, l[n]? = some i ∧ .int i = d := by
  rw [List.getElem?_map] at h
  cases e : l[n]? with
  | none => rw [e] at h; cases h
  | some x => rw [e] at h; exact ⟨x, rfl, Option.some.inj h⟩
variable {α : Type} [DecidableEq α] (f : α → Str)
open L2 (Key)
def sI (i : Int) : Str := toString i
def N1 : Nat := 999999
def N2 : Nat := 999998
def N3 : Nat := 999997
theorem L0_eq : L0 = N1 + 1 := rfl
theorem N1_eq : N1 = N2 + 1 := rfl
theorem N2_eq : N2 = N3 + 1 := rfl
section
variable {st : S} {Q : D → S → Prop} {QS : Es × Fl → S → Prop} {QL : List D → S → Prop} {xs ys : List D} {n m i : Nat} {es : Es} {s : Src} {g : D → Es → M Es} {b : Es → M (Es × Fl)}
theorem run_lapc {t : Es → M Bool} {e : Es → M D} {acc : List D} : Rn (lapC s g t e es (n + 1) i acc) st QL = match s.at st i with
    | .stop => QL acc st
    | .bad => False
    | .got d => Rn (g d es) st fun e1 s2 => Rn (t e1) s2 fun q s3 => if q = true then Rn (e e1) s3 fun y s4 => acc.length < sizeLine ∧ Rn (lapC s g t e es n (i + 1) (acc ++ [y])) s4 QL else Rn (lapC s g t e es n (i + 1) acc) s3 QL := by
  cases h : s.at st i with
  | stop => exact run_some (by unfold lapC; rw [h])
  | bad => unfold Rn lapC; rw [h]
  | got d =>
    have e2 : lapC s g t e es (n + 1) i acc st = (do
      let es1 ← g d es
      let q ← t es1
      if q then do
        let y ← e es1
        guardM (decide (acc.length < sizeLine))
        lapC s g t e es n (i + 1) (acc ++ [y])
      else lapC s g t e es n (i + 1) acc) st := by
      conv => lhs; unfold lapC
      rw [h]
    refine (rn_congr e2).trans ?_
    rw [run_bind]
    refine Rn_q (funext fun e1 => funext fun s1 => ?_)
    rw [run_bind]
    refine Rn_q (funext fun q => funext fun s2 => ?_)
    cases q with
    | true =>
      show Rn (e e1 >>= _) s2 QL = _
      rw [run_bind, if_pos rfl]
      refine Rn_q (funext fun y => funext fun s3 => ?_)
      rw [run_bind, run_guard, decide_eq_true_eq]
    | false => rfl
theorem lacE {t : Es → M Bool} {e : Es → M D} {acc : List D} {n' : Nat} (h : n' = n + 1) : Rn (lapC s g t e es n' i acc) st QL = match s.at st i with
    | .stop => QL acc st
    | .bad => False
    | .got d => Rn (g d es) st fun e1 s2 => Rn (t e1) s2 fun q s3 => if q = true then Rn (e e1) s3 fun y s4 => acc.length < sizeLine ∧ Rn (lapC s g t e es n (i + 1) (acc ++ [y])) s4 QL else Rn (lapC s g t e es n (i + 1) acc) s3 QL := by
  subst h
  exact run_lapc
theorem lstAt_of (h : st[n]? = some (.lst xs)) : lstAt n st = some (xs, st) := by unfold lstAt; rw [h]
theorem run_isLst {QB : Bool → S → Prop} (h : st[n]? = some (.lst xs)) : Rn (isLst (.ref n)) st QB = QB true st := run_some (by
  show (match st[n]? with | some (.lst _) => some (true, st) | _ => none) = _
  rw [h])
theorem run_lenR (h : st[n]? = some (.lst xs)) : Rn (on1 lenD [.ref n]) st Q = Q (.int xs.length) st := run_some (by
  show (match st[n]? with | some (.lst xs) => some (D.int xs.length, st) | some (.dic kvs) => some (.int kvs.length, st) | some (.dif kvs) => some (.int kvs.length, st) | _ => none) = _
  rw [h])
@[simp] theorem run_inT {x : D} {ys : List D} : Rn (inO x (.tup ys)) st Q = ((flatD x && ys.all flatD) = true ∧ Q (.bl (ys.any fun z => eq1 z x)) st) := by
  unfold inO
  rw [run_blM, run_bind]
  show Rn (guardM _ >>= _) st _ = _
  rw [run_bind, run_guard]
  rfl
@[simp] theorem run_ninT {x : D} {ys : List D} : Rn (ninO x (.tup ys)) st Q = ((flatD x && ys.all flatD) = true ∧ Q (.bl (!(ys.any fun z => eq1 z x))) st) := by
  unfold ninO
  rw [run_blM, run_bind]
  show Rn (guardM _ >>= _) st _ = _
  rw [run_bind, run_guard]
  rfl
@[simp] theorem run_str1 {j : Int} : Rn (on1 strD [.int j]) st Q = (j.natAbs.log2 < 1920 ∧ Q (.str (sI j)) st) := by
  show Rn (guardM _ >>= _) st _ = _
  rw [run_bind, run_guard, decide_eq_true_eq]
  rfl
end
@[simp] theorem bq_nn : (("none" : Str) == "none") = true := by decide +kernel
@[simp] theorem bq_ni : (("none" : Str) == "item") = false := by decide +kernel
@[simp] theorem bq_nr : (("none" : Str) == "row") = false := by decide +kernel
@[simp] theorem bq_ne : (("none" : Str) == "either") = false := by decide +kernel
@[simp] theorem bq_nm : (("none" : Str) == "many") = false := by decide +kernel
@[simp] theorem bq_in : (("item" : Str) == "none") = false := by decide +kernel
@[simp] theorem bq_ii : (("item" : Str) == "item") = true := by decide +kernel
@[simp] theorem bq_ir : (("item" : Str) == "row") = false := by decide +kernel
@[simp] theorem bq_ie : (("item" : Str) == "either") = false := by decide +kernel
@[simp] theorem bq_im : (("item" : Str) == "many") = false := by decide +kernel
@[simp] theorem bq_rn : (("row" : Str) == "none") = false := by decide +kernel
@[simp] theorem bq_ri : (("row" : Str) == "item") = false := by decide +kernel
@[simp] theorem bq_rr : (("row" : Str) == "row") = true := by decide +kernel
@[simp] theorem bq_re : (("row" : Str) == "either") = false := by decide +kernel
@[simp] theorem bq_rm : (("row" : Str) == "many") = false := by decide +kernel
@[simp] theorem bq_en : (("either" : Str) == "none") = false := by decide +kernel
@[simp] theorem bq_ei : (("either" : Str) == "item") = false := by decide +kernel
@[simp] theorem bq_er : (("either" : Str) == "row") = false := by decide +kernel
@[simp] theorem bq_ee : (("either" : Str) == "either") = true := by decide +kernel
@[simp] theorem bq_em : (("either" : Str) == "many") = false := by decide +kernel
@[simp] theorem bq_mn : (("many" : Str) == "none") = false := by decide +kernel
@[simp] theorem bq_mi : (("many" : Str) == "item") = false := by decide +kernel
@[simp] theorem bq_mr : (("many" : Str) == "row") = false := by decide +kernel
@[simp] theorem bq_me : (("many" : Str) == "either") = false := by decide +kernel
@[simp] theorem bq_mm : (("many" : Str) == "many") = true := by decide +kernel
@[simp] theorem fl_non : flatD .non = true := rfl
@[simp] theorem fl_bl {b : Bool} : flatD (.bl b) = true := rfl
@[simp] theorem fl_int {b : Int} : flatD (.int b) = true := rfl
@[simp] theorem fl_str {b : Str} : flatD (.str b) = true := rfl
@[simp] theorem fl_tup {b : List D} : flatD (.tup b) = false := rfl
@[simp] theorem fl_ref {b : Nat} : flatD (.ref b) = false := rfl
@[simp] theorem eq1_ss {a b : Str} : eq1 (.str a) (.str b) = (a == b) := rfl
@[simp] theorem eq1_ii {a b : Int} : eq1 (.int a) (.int b) = (a == b) := rfl
@[simp] theorem eq1_bb {a b : Bool} : eq1 (.bl a) (.bl b) = (a == b) := rfl
@[simp] theorem eq1_si {a : Str} {b : Int} : eq1 (.str a) (.int b) = false := rfl
@[simp] theorem eq1_is {a : Int} {b : Str} : eq1 (.int a) (.str b) = false := rfl
@[simp] theorem eq1_sb {a : Str} {b : Bool} : eq1 (.str a) (.bl b) = false := rfl
@[simp] theorem eq1_bs {a : Bool} {b : Str} : eq1 (.bl a) (.str b) = false := rfl
variable {α : Type} [DecidableEq α] (f : α → Str)
open L2 (Key)
variable {α : Type} [DecidableEq α] (f : α → Str)
open L2 (Key)
namespace Pat
section
variable {α : Type} [DecidableEq α]
def rest (x y : Pat α) : Pat α := if x = .none then y else .row x y
end
end Pat
open L2 (Key)
section
variable {st : S} {Q : D → S → Prop} {xs ys : List D} {n m : Nat}
theorem run_ixR {i : Int} (h : st[n]? = some (.lst xs)) : Rn (ixD (.ref n) (.int i)) st Q = Rn (ofO (L2.atI xs i)) st Q := rn_congr (by
  show ixRef n (.int i) st = _
  unfold ixRef
  rw [h]
  rfl)
end
open L2 (Key)
def Pat.hd {α : Type} : Pat α → Str
  | .none => "none"
  | .item _ => "item"
  | .row _ _ => "row"
  | .either _ _ => "either"
  | .many _ => "many"
section
variable {α : Type} [DecidableEq α] (f : α → Str)
def Ok (p : Pat α) : Prop := ∀ a ∈ p.items, PyData.strOk (f a) = true
theorem toPy_pat : ∀ (p : Pat α) (n : Nat), p.deep + 1 ≤ n → Ok f p → ∃ ps, toPy [] n (p.toD f) = some (.tuple (.str p.hd :: ps))
  | p, 0, h, _ => by omega
  | p, 1, h, _ => by have := deep_pos p; omega
  | .none, n + 2, h, ho => ⟨[], by unfold Pat.toD toPy mapO mapO; rw [toPy_str ok_none]; rfl⟩
  | .item a, n + 2, h, ho => ⟨[.str (f a)], by
    unfold Pat.toD toPy mapO mapO mapO
    rw [toPy_str ok_item, toPy_str (ho a (List.mem_cons_self ..))]
    rfl⟩
  | .many p, n + 2, h, ho => by
    obtain ⟨ps, e⟩ := toPy_pat p (n + 1) (by unfold Pat.deep at h; omega) ho
    refine ⟨[.tuple (.str p.hd :: ps)], ?_⟩
    unfold Pat.toD toPy mapO mapO mapO
    rw [toPy_str ok_many, e]
    rfl
  | .row p q, n + 2, h, ho => by
    unfold Pat.deep at h
    obtain ⟨ps, e⟩ := toPy_pat p (n + 1) (by omega) (fun a ha => ho a (List.mem_append_left _ ha))
    obtain ⟨ps2, e2⟩ := toPy_pat q (n + 1) (by omega) (fun a ha => ho a (List.mem_append_right _ ha))
    refine ⟨[.tuple (.str p.hd :: ps), .tuple (.str q.hd :: ps2)], ?_⟩
    unfold Pat.toD toPy mapO mapO mapO mapO
    rw [toPy_str ok_row, e, e2]
    rfl
  | .either p q, n + 2, h, ho => by
    unfold Pat.deep at h
    obtain ⟨ps, e⟩ := toPy_pat p (n + 1) (by omega) (fun a ha => ho a (List.mem_append_left _ ha))
    obtain ⟨ps2, e2⟩ := toPy_pat q (n + 1) (by omega) (fun a ha => ho a (List.mem_append_right _ ha))
    refine ⟨[.tuple (.str p.hd :: ps), .tuple (.str q.hd :: ps2)], ?_⟩
    unfold Pat.toD toPy mapO mapO mapO mapO
    rw [toPy_str ok_either, e, e2]
    rfl
end
def It (p : Pat Int) : Prop := ∀ a ∈ p.items, 0 ≤ a ∧ a < 8
open L2 (Key)
open L2 (Key)
theorem It.l {p q : Pat Int} (h : It (.row p q)) : It p := fun a ha => h a (List.mem_append_left _ ha)
theorem It.r {p q : Pat Int} (h : It (.row p q)) : It q := fun a ha => h a (List.mem_append_right _ ha)
open L2 (Key)
section
variable {st : S} {Q : D → S → Prop} {n : Nat} {es : Es}
@[simp] theorem run_sortR {me : Es → M D} : Rn (sortR me es) st Q = Rn (me es) st fun x s => match x with
    | .ref n => Rn (sortRef n) s Q
    | _ => False := by
  unfold sortR
  rw [run_bind]
  refine Rn_q (funext fun x => funext fun s => ?_)
  cases x <;> rfl
end
open L2 (Key)
theorem run_inFlat {st : S} {Q : D → S → Prop} {n : Nat} {x : D} {ys : List D} (h : st[n]? = some (.lst ys)) (hf : (flatD x && ys.all flatD) = true) : Rn (inO x (.ref n)) st Q = Q (.bl (ys.any fun z => eq1 z x)) st := by
  have e : inRef x n st = some (ys.any fun z => eq1 z x, st) := by
    unfold inRef
    rw [h]
    simp only [hf]
    show inFlat x ys st = _
    unfold inFlat
    rw [hf]
    rfl
  unfold inO
  rw [run_blM, run_bind]
  refine (run_some e).trans ?_
  rfl
open L2 (Key)
section
variable {st : S} {Q : D → S → Prop}
theorem at_pos {xs : List D} {i : Int} (h0 : 0 ≤ i) {d : D} (h : xs[i.toNat]? = some d) : L2.atI xs i = some d := by
  have hl := (List.getElem?_eq_some_iff.mp h).1
  unfold L2.atI L2.ixN
  rw [if_pos h0, if_pos (by omega)]
  exact h
theorem toPy_ints : ∀ (l : List Int) (n : Nat), mapO (toPy st (n + 1)) (l.map .int) = some (l.map PyData.int)
  | [], _ => rfl
  | j :: l, n => by
    rw [List.map_cons]
    unfold mapO
    rw [toPy_ints l n]
    rfl
end
open L2 (Key)
open L2 (Key)
section
variable {st : S} {Q : D → S → Prop}
@[simp] theorem isi_tup {ds : List D} : Rn (on2 isi1 [.tup ds, .tup [.ty .list, .ty .tuple]]) st Q = Q (.bl true) st := rfl
@[simp] theorem isi_int {i : Int} : Rn (on2 isi1 [.int i, .tup [.ty .list, .ty .tuple]]) st Q = Q (.bl false) st := rfl
@[simp] theorem isi_bl {i : Bool} : Rn (on2 isi1 [.bl i, .tup [.ty .list, .ty .tuple]]) st Q = Q (.bl false) st := rfl
@[simp] theorem isi_str {i : Str} : Rn (on2 isi1 [.str i, .tup [.ty .list, .ty .tuple]]) st Q = Q (.bl false) st := rfl
@[simp] theorem isd_int {i : Int} : Rn (on2 isi1 [.int i, .ty .dict]) st Q = Q (.bl false) st := rfl
@[simp] theorem isd_bl {i : Bool} : Rn (on2 isi1 [.bl i, .ty .dict]) st Q = Q (.bl false) st := rfl
@[simp] theorem isd_str {i : Str} : Rn (on2 isi1 [.str i, .ty .dict]) st Q = Q (.bl false) st := rfl
@[simp] theorem isq_int {i : Int} : Rn (on2 isi1 [.int i, .tup [.ty .int, .ty .str]]) st Q = Q (.bl true) st := rfl
@[simp] theorem isq_bl {i : Bool} : Rn (on2 isi1 [.bl i, .tup [.ty .int, .ty .str]]) st Q = Q (.bl true) st := rfl
@[simp] theorem isq_str {i : Str} : Rn (on2 isi1 [.str i, .tup [.ty .int, .ty .str]]) st Q = Q (.bl true) st := rfl
@[simp] theorem iso_int {i : Int} : Rn (isO (.int i) .non) st Q = Q (.bl false) st := rfl
@[simp] theorem iso_bl {i : Bool} : Rn (isO (.bl i) .non) st Q = Q (.bl false) st := rfl
@[simp] theorem iso_str {i : Str} : Rn (isO (.str i) .non) st Q = Q (.bl false) st := rfl
end
open L2 (Key)
def AB (x : Str) : Prop := x = "a" ∨ x = "b"
open L2 (Key)
section
variable {st : S} {Q : D → S → Prop} {es : Es}
theorem run_kdNin {kn : List (Str × Option D)} {a : Es → M D} : Rn (kdNin kn a es) st Q = Rn (a es) st fun x s => Rn (kdLook kn x) s fun r s2 => Q (.bl (!r.isSome)) s2 := by
  unfold kdNin
  repeat (first | rfl | rw [run_bind] | simp only [run_guard, run_new, run_pure, decide_eq_true_eq] | refine Rn_q (funext fun _ => funext fun _ => ?_))
theorem run_kdIx {kn : List (Str × Option D)} {a : Es → M D} : Rn (kdIx kn a es) st Q = Rn (a es) st fun x s => Rn (kdLook kn x) s fun r s2 => match r with
    | some d => Q d s2
    | none => False := by
  unfold kdIx
  rw [run_bind]
  refine Rn_q (funext fun x => funext fun s => ?_)
  rw [run_bind]
  refine Rn_q (funext fun r => funext fun s2 => ?_)
  cases r <;> rfl
theorem run_kdLook {kn : List (Str × Option D)} {z : Str} {r : Option D} {QO : Option D → S → Prop} (h : look kn z = some r) : Rn (kdLook kn (.str z)) st QO = QO r st := run_some (by
  show (match look kn z with | some r => some (r, st) | none => none) = _
  rw [h])
theorem look_hit {z k : Str} {v : Option D} {r : List (Str × Option D)} (h : decide (k = z) = true) : look ((k, v) :: r) z = some v := if_pos (of_decide_eq_true h)
theorem look_off {z k : Str} {v : Option D} {r : List (Str × Option D)} (h : decide (k = z) = false) : look ((k, v) :: r) z = look r z := if_neg (of_decide_eq_false h)
theorem lkN : look kn_PARTS "none" = some (some (.int 1)) := look_hit (by decide +kernel)
theorem lkI : look kn_PARTS "item" = some (some (.int 2)) := by
  unfold kn_PARTS
  rw [look_off (by decide +kernel), look_hit (by decide +kernel)]
theorem lkR : look kn_PARTS "row" = some (some (.int 3)) := by
  unfold kn_PARTS
  rw [look_off (by decide +kernel), look_off (by decide +kernel), look_hit (by decide +kernel)]
theorem lkE : look kn_PARTS "either" = some (some (.int 3)) := by
  unfold kn_PARTS
  rw [look_off (by decide +kernel), look_off (by decide +kernel), look_off (by decide +kernel), look_hit (by decide +kernel)]
theorem lkM : look kn_PARTS "many" = some (some (.int 2)) := by
  unfold kn_PARTS
  rw [look_off (by decide +kernel), look_off (by decide +kernel), look_off (by decide +kernel), look_off (by decide +kernel), look_hit (by decide +kernel)]
theorem isT_tup {ds : List D} : Rn (on2 isi1 [.tup ds, .ty .tuple]) st Q = Q (.bl true) st := rfl
theorem isS_str {x : Str} : Rn (on2 isi1 [.str x, .ty .str]) st Q = Q (.bl true) st := rfl
end
open L2 (Key)
theorem neq_nil {p : Pat Str} (h : p.deep ≤ 60) (ho : Ok id p) {st : S} {Q : D → S → Prop} : Rn (eqO (p.toD id) (.tup [])) st Q = Q (.bl false) st := by
  obtain ⟨ps, e⟩ := toPy_pat id p 64 (by omega) ho
  have e3 : toPy st 64 (.tup []) = some (.tuple []) := rfl
  rw [run_eqO, toPy_pure e (Nat.le_refl _), e3]
  show Q (.bl (PyData.eqv (.tuple (.str p.hd :: ps)) (.tuple []))) st = _
  rw [PyData.eqv, PyData.eqvAll]
theorem bools_map : ∀ l : List Bool, boolsOf (l.map .bl) = some l
  | [] => rfl
  | b :: l => by rw [List.map_cons, boolsOf, bools_map l]
theorem run_allR {st : S} {Q : D → S → Prop} {n : Nat} {l : List Bool} (h : st[n]? = some (.lst (l.map .bl))) : Rn (on1 allD [.ref n]) st Q = Q (.bl (l.all id)) st := by
  show Rn (lstAt n >>= _) st Q = _
  rw [run_bind, run_some (lstAt_of h), bools_map]
  rfl
def inN (NM : List Str) (p : Pat Str) : Bool := p.items.all fun a => decide (a ∈ NM)
theorem within_none (NM : List Str) (n m k : Nat) (st : S) : Rn (tb (k + 1) .Fis_pattern_within [Pat.toD id (.none : Pat Str), .ref n, .int m]) st fun d s => d = .bl (decide (1 ≤ m)) ∧ ∃ ex, s = st ++ ex := by
  rw [t_b_is_pattern_within]
  have e : ∀ {st : S} {Q : D → S → Prop}, Rn (eqO (.tup [.str "none"]) (.tup [])) st Q = Q (.bl false) st := fun {st Q} => neq_nil (p := .none) (by decide) (fun a ha => by cases ha)
  cases m with
  | zero => simp [b_is_pattern_within, Pat.toD]
  | succ m =>
    have h1 : decide ((m : Int) + 1 = 0) = false := by simp; omega
    simp [b_is_pattern_within, Pat.toD, isT_tup, isS_str, e, run_kdNin, run_kdIx, run_kdLook lkN, h1, lacE L0_eq, seq_at, lapOf]
    rw [run_allR (l := []) (by simp)]
    simp
theorem any_str {x : Str} : ∀ {l : List Str}, ((l.map D.str).any fun z => eq1 z (.str x)) = decide (x ∈ l)
  | [] => rfl
  | y :: l => by
    rw [List.map_cons, List.any_cons, any_str]
    show ((y == x) || decide (x ∈ l)) = _
    by_cases h : y = x
    · simp [h]
    · simp [h, Ne.symm h]
theorem flat_strs : ∀ l : List Str, (l.map D.str).all flatD = true
  | [] => rfl
  | y :: l => by rw [List.map_cons, List.all_cons, flat_strs]; rfl
theorem in_names {st : S} {Q : D → S → Prop} {n : Nat} {x : Str} {l : List Str} (h : st[n]? = some (.lst (l.map .str))) : Rn (inO (.str x) (.ref n)) st Q = Q (.bl (decide (x ∈ l))) st := by
  rw [run_inFlat h (by rw [flat_strs]; rfl), any_str]
/-- what stands at n takes NM as its names, from st on -/
def Nms (st : S) (n : Nat) (NM : List Str) : Prop := ∀ (ex : S) (x : Str) (Q : Bool → S → Prop), Rn (inD (.str x) (.ref n)) (st ++ ex) Q = Q (decide (x ∈ NM)) (st ++ ex)
theorem Nms.app {st : S} {n : Nat} {NM : List Str} (h : Nms st n NM) (ex : S) : Nms (st ++ ex) n NM := fun ex2 x Q => by
  rw [List.append_assoc]
  exact h _ x Q
theorem Nms.inn {st : S} {n : Nat} {NM : List Str} (h : Nms st n NM) {x : Str} {Q : D → S → Prop} : Rn (inO (.str x) (.ref n)) st Q = Q (.bl (decide (x ∈ NM))) st := by
  have := h [] x fun b s => Q (.bl b) s
  rw [List.append_nil] at this
  unfold inO
  rw [run_blM, run_bind]
  exact this
theorem Nms.nin {st : S} {n : Nat} {NM : List Str} (h : Nms st n NM) {x : Str} {Q : D → S → Prop} : Rn (ninO (.str x) (.ref n)) st Q = Q (.bl (!decide (x ∈ NM))) st := by
  have := h [] x fun b s => Q (.bl (!b)) s
  rw [List.append_nil] at this
  unfold ninO
  rw [run_blM, run_bind]
  exact this
theorem within_item (NM : List Str) (n m k : Nat) (st : S) (a : Str) (ha : PyData.strOk a = true) (h : Nms st n NM) : Rn (tb (k + 1) .Fis_pattern_within [Pat.toD id (.item a), .ref n, .int m]) st fun d s => d = .bl (decide (1 ≤ m) && decide (a ∈ NM)) ∧ ∃ ex, s = st ++ ex := by
  rw [t_b_is_pattern_within]
  have e : ∀ {st : S} {Q : D → S → Prop}, Rn (eqO (.tup [.str "item", .str a]) (.tup [])) st Q = Q (.bl false) st := fun {st Q} => neq_nil (p := .item a) (by show 1 ≤ 60; decide) (fun b hb => by rw [List.mem_singleton.mp hb]; exact ha)
  cases m with
  | zero => simp [b_is_pattern_within, Pat.toD]
  | succ m =>
    have h1 : decide ((m : Int) + 1 = 0) = false := by simp; omega
    simp [b_is_pattern_within, Pat.toD, isT_tup, isS_str, e, run_kdNin, run_kdIx, run_kdLook lkI, h1, h.inn]
open L2 (Key)
def wi (NM : List Str) (p : Pat Str) (m : Nat) : Bool := decide (p.deep ≤ m) && inN NM p
theorem within_many (NM : List Str) (n m k : Nat) (st : S) (p : Pat Str) (hp : p.deep ≤ 50) (ho : Ok id p) (ih : ∀ st, Nms st n NM → Rn (tb k .Fis_pattern_within [p.toD id, .ref n, .int m]) st fun d s => d = .bl (wi NM p m) ∧ ∃ ex, s = st ++ ex) (h : Nms st n NM) :
    Rn (tb (k + 1) .Fis_pattern_within [Pat.toD id (.many p), .ref n, .int (m + 1 : Nat)]) st fun d s => d = .bl (wi NM p m) ∧ ∃ ex, s = st ++ ex := by
  rw [t_b_is_pattern_within]
  have e : ∀ {st : S} {Q : D → S → Prop}, Rn (eqO (.tup [.str "many", p.toD id]) (.tup [])) st Q = Q (.bl false) st := fun {st Q} => neq_nil (p := .many p) (by show 1 + p.deep ≤ 60; omega) ho
  have h1 : decide ((m : Int) + 1 = 0) = false := by simp; omega
  simp [b_is_pattern_within, Pat.toD, isT_tup, isS_str, e, run_kdNin, run_kdIx, run_kdLook lkM, h1, lacE L0_eq, lacE N1_eq, seq_at, lapOf, wipeE]
  refine (ih st h).mono fun d s ⟨e1, ex, e2⟩ => ?_
  subst e1 e2
  simp [sz3, lacE N1_eq, lacE N2_eq, seq_at, lapOf, wipeE]
  rw [run_allR (l := [wi NM p m]) (by simp)]
  simp
theorem within_two (NM : List Str) (n m k : Nat) (st : S) (p q r : Pat Str) (h0 : Str) (hr : r.toD id = .tup [.str h0, p.toD id, q.toD id]) (hl : look kn_PARTS h0 = some (some (.int 3))) (hi : ∀ {st : S} {Q : D → S → Prop}, Rn (eqO (.str h0) (.str "item")) st Q = Q (.bl false) st) (hd : r.deep ≤ 60) (ho : Ok id r)
    (ih : ∀ st, Nms st n NM → Rn (tb k .Fis_pattern_within [p.toD id, .ref n, .int m]) st fun d s => d = .bl (wi NM p m) ∧ ∃ ex, s = st ++ ex)
    (ih2 : ∀ st, Nms st n NM → Rn (tb k .Fis_pattern_within [q.toD id, .ref n, .int m]) st fun d s => d = .bl (wi NM q m) ∧ ∃ ex, s = st ++ ex) (h : Nms st n NM) :
    Rn (tb (k + 1) .Fis_pattern_within [r.toD id, .ref n, .int (m + 1 : Nat)]) st fun d s => d = .bl (wi NM p m && wi NM q m) ∧ ∃ ex, s = st ++ ex := by
  rw [t_b_is_pattern_within]
  have e : ∀ {st : S} {Q : D → S → Prop}, Rn (eqO (r.toD id) (.tup [])) st Q = Q (.bl false) st := fun {st Q} => neq_nil hd ho
  rw [hr] at e ⊢
  have h1 : decide ((m : Int) + 1 = 0) = false := by simp; omega
  simp [b_is_pattern_within, isT_tup, isS_str, e, run_kdNin, run_kdIx, run_kdLook hl, h1, hi, lacE L0_eq, lacE N1_eq, lacE N2_eq, seq_at, lapOf, wipeE]
  refine (ih st h).mono fun d s ⟨e1, ex, e2⟩ => ?_
  subst e1 e2
  simp [sz3, lacE N1_eq, lacE N2_eq, seq_at, lapOf, wipeE]
  refine (ih2 _ (h.app _)).mono fun d s ⟨e1, ex2, e2⟩ => ?_
  subst e1 e2
  simp [sz3, lacE N1_eq, lacE N2_eq, seq_at, lapOf, wipeE]
  rw [run_allR (l := [wi NM p m, wi NM q m]) (by simp)]
  simp
theorem wi_many {NM : List Str} {p : Pat Str} {m : Nat} : wi NM (.many p) (m + 1) = wi NM p m := by
  unfold wi
  rw [show inN NM (.many p) = inN NM p from rfl, show (Pat.many p).deep = 1 + p.deep from rfl]
  congr 1
  simp only [decide_eq_decide]
  omega
theorem wi_two {NM : List Str} {p q r : Pat Str} {m : Nat} (hi : r.items = p.items ++ q.items) (hd : r.deep = 1 + max p.deep q.deep) : wi NM r (m + 1) = (wi NM p m && wi NM q m) := by
  unfold wi inN
  rw [hi, hd, List.all_append]
  have : decide (1 + max p.deep q.deep ≤ m + 1) = (decide (p.deep ≤ m) && decide (q.deep ≤ m)) := by
    rw [← Bool.decide_and, decide_eq_decide]
    omega
  rw [this]
  cases decide (p.deep ≤ m) <;> cases decide (q.deep ≤ m) <;> simp
theorem within_zero (n k : Nat) (st : S) (d : D) : Rn (tb (k + 1) .Fis_pattern_within [d, .ref n, .int (0 : Nat)]) st fun d s => d = .bl false ∧ ∃ ex, s = st ++ ex := by
  rw [t_b_is_pattern_within]
  simp [b_is_pattern_within]
theorem within_ok (NM : List Str) (n : Nat) : ∀ (m : Nat) (p : Pat Str) (k : Nat) (st : S), m + 1 ≤ k → p.deep ≤ 50 → Ok id p → Nms st n NM → Rn (tb k .Fis_pattern_within [p.toD id, .ref n, .int m]) st fun d s => d = .bl (wi NM p m) ∧ ∃ ex, s = st ++ ex
  | m, p, 0, st, h, _, _, _ => by omega
  | 0, p, k + 1, st, _, _, _, _ => by
    have : wi NM p 0 = false := by unfold wi; have := deep_pos p; simp; omega
    rw [this]
    exact within_zero n k st _
  | m + 1, .none, k + 1, st, _, _, _, _ => by
    have : wi NM .none (m + 1) = decide (1 ≤ m + 1) := by simp [wi, inN, Pat.items, Pat.deep]
    rw [this]
    exact within_none NM n (m + 1) k st
  | m + 1, .item a, k + 1, st, _, _, ho, h => by
    have : wi NM (.item a) (m + 1) = (decide (1 ≤ m + 1) && decide (a ∈ NM)) := by simp [wi, inN, Pat.items, Pat.deep]
    rw [this]
    exact within_item NM n (m + 1) k st a (ho a (List.mem_cons_self ..)) h
  | m + 1, .many p, k + 1, st, hk, hd, ho, h => by
    have e : (Pat.many p).deep = 1 + p.deep := rfl
    rw [wi_many]
    exact within_many NM n m k st p (by omega) ho (fun st h => within_ok NM n m p k st (by omega) (by omega) ho h) h
  | m + 1, .row p q, k + 1, st, hk, hd, ho, h => by
    have e : (Pat.row p q).deep = 1 + max p.deep q.deep := rfl
    rw [wi_two (p := p) (q := q) rfl rfl]
    exact within_two NM n m k st p q (.row p q) "row" rfl lkR q_ri (by omega) ho (fun st h => within_ok NM n m p k st (by omega) (by omega) (fun a ha => ho a (List.mem_append_left _ ha)) h) (fun st h => within_ok NM n m q k st (by omega) (by omega) (fun a ha => ho a (List.mem_append_right _ ha)) h) h
  | m + 1, .either p q, k + 1, st, hk, hd, ho, h => by
    have e : (Pat.either p q).deep = 1 + max p.deep q.deep := rfl
    rw [wi_two (p := p) (q := q) rfl rfl]
    exact within_two NM n m k st p q (.either p q) "either" rfl lkE q_ei (by omega) ho (fun st h => within_ok NM n m p k st (by omega) (by omega) (fun a ha => ho a (List.mem_append_left _ ha)) h) (fun st h => within_ok NM n m q k st (by omega) (by omega) (fun a ha => ho a (List.mem_append_right _ ha)) h) h
open L2 (Key)
def ip (NM : List Str) (p : Pat Str) : Bool := wi NM p 6 && decide (p.items.length ≤ 8)
theorem is_pattern_ok (NM : List Str) (n k : Nat) (p : Pat Str) (st : S) (hk : 20 ≤ k) (hd : p.deep ≤ 18) (hi : p.items.length ≤ 1000) (ho : Ok id p) (h : Nms st n NM) :
    Rn (tb (k + 1) .Fis_pattern [p.toD id, .ref n]) st fun d s => d = .bl (ip NM p) ∧ ∃ ex, s = st ++ ex := by
  rw [t_b_is_pattern]
  simp [b_is_pattern]
  refine (within_ok NM n 6 p k st (by omega) (by omega) ho h).mono fun d s ⟨e1, ex, e2⟩ => ?_
  subst e1 e2
  cases hw : wi NM p 6 with
  | false => simp [ip, hw]
  | true =>
    simp
    refine (places_of id p k (by omega) hi).run fun ex2 => ?_
    simp [ip, hw, Pat.its]
    omega
open L2 (Key)
theorem look_no {k : Key} : ∀ {l : List (Key × D)}, k ∉ l.map (·.1) → look l k = none
  | [], _ => rfl
  | p :: r, h => by
    rw [List.map_cons, List.mem_cons, not_or] at h
    unfold look
    rw [if_neg fun e => h.1 e.symm]
    exact look_no h.2
theorem merge_nd : ∀ {m l : List (Key × D)}, ((l ++ m).map (·.1)).Nodup → merge l m = l ++ m
  | [], l, _ => by simp [merge]
  | p :: m, l, h => by
    have h' : ((l ++ [p] ++ m).map (·.1)).Nodup := by simpa using h
    have hp : p.1 ∉ l.map (·.1) := fun z => by
      rw [List.map_append] at h
      exact (List.nodup_append.mp h).2.2 _ z _ (List.mem_cons_self ..) rfl
    show merge (put l p.1 p.2) m = _
    unfold put
    rw [look_no hp]
    show merge (l ++ [p]) m = _
    rw [merge_nd h']
    simp
section
variable {st : S} {Q : D → S → Prop} {es : Es} {n : Nat}
theorem run_ixS {z : Str} {kvs : List (Key × D)} (h : st[n]? = some (.dic kvs)) : Rn (ixD (.ref n) (.str z)) st Q = Rn (ofO (look kvs (.inr z))) st Q := rn_congr (by
  show ixRef n (.str z) st = _
  unfold ixRef
  rw [h]
  rfl)
theorem l5_off {k z : Str} {v : D} {r : List (Key × D)} (h : decide (k = z) = false) : look (((.inr k : Key), v) :: r) (.inr z) = look r (.inr z) := if_neg fun e => of_decide_eq_false h (Sum.inr.inj e)
theorem l5_hit {z : Str} {v : D} {r : List (Key × D)} : look (((.inr z : Key), v) :: r) (.inr z) = some v := if_pos rfl
end
def PAB (p : Pat Str) : Prop := ∀ a ∈ p.items, AB a
end K37


namespace K37
open PySem Mx
open L2 (Key)
/-! ### draws: rules for dicts and arithmetic -/
section
variable {st : S} {Q : D → S → Prop} {QE : Es → S → Prop} {es : Es} {n g c : Nat}
@[simp] theorem run_sub {o i : Es → M D} {d : D} : Rn (subG o i d es) st QE = Rn (o es) st fun x s => Rn (i es) s fun y s2 => Rn (setD x y d) s2 fun _ s3 => QE es s3 := by
  unfold subG
  repeat (first | rfl | rw [run_bind] | simp only [run_guard, run_new, run_pure, decide_eq_true_eq] | refine Rn_q (funext fun _ => funext fun _ => ?_))
theorem run_setS {z : Str} {d : D} {kvs : List (Key × D)} {QU : Unit → S → Prop} (h : st[n]? = some (.dic kvs)) (hl : kvs.length ≤ 1000) : Rn (setD (.ref n) (.str z) d) st QU = QU () (st.set n (.dic (put kvs (.inr z) d))) := run_some (by
  show setRef n (.str z) d st = _
  unfold setRef
  rw [h]
  show dicPut n kvs (.str z) d st = _
  unfold dicPut
  show (if kvs.length < sizeLine then _ else _) = _
  rw [if_pos (sz3 (by omega))])
@[simp] theorem run_mulI {a b : Int} : Rn (binD .Mult (.int a) (.int b)) st Q = (mulOk a b = true ∧ Q (.int (a * b)) st) := by
  show Rn (guardM _ >>= _) st Q = _
  rw [run_bind, run_guard]
  rfl
@[simp] theorem run_modI {a b : Int} : Rn (binD .Mod (.int a) (.int b)) st Q = (b ≠ 0 ∧ Q (.int (a.fmod b)) st) := by
  show Rn (guardM _ >>= _) st Q = _
  rw [run_bind, run_guard, decide_eq_true_eq]
  rfl
@[simp] theorem run_fdivI {a b : Int} : Rn (binD .FloorDiv (.int a) (.int b)) st Q = ((b ≠ 0 ∧ b.natAbs < 1073741824) ∧ Q (.int (a.fdiv b)) st) := by
  show Rn (guardM _ >>= _) st Q = _
  rw [run_bind, run_guard, Bool.and_eq_true, decide_eq_true_eq, decide_eq_true_eq]
  rfl
@[simp] theorem run_powI {a b : Int} : Rn (binD .Pow (.int a) (.int b)) st Q = (((0 ≤ b ∧ b ≤ 1000000) ∧ a.natAbs < 2 ^ 64) ∧ Q (.int (a ^ b.toNat)) st) := by
  show Rn (guardM _ >>= _) st Q = _
  rw [run_bind, run_guard, Bool.and_eq_true, Bool.and_eq_true, decide_eq_true_eq, decide_eq_true_eq, decide_eq_true_eq]
  rfl
@[simp] theorem run_intI {a : Int} : Rn (on1 intD [.int a]) st Q = Q (.int a) st := rfl
@[simp] theorem run_absI {a : Int} : Rn (on1 absD [.int a]) st Q = Q (.int (if a < 0 then -a else a)) st := rfl
end
theorem mulOk_l {i j : Int} (h1 : -(2 ^ 64) < i) (h2 : i < 2 ^ 64) : mulOk i j = true := by
  unfold mulOk
  rw [show decide (-(2 ^ 64) < i) = true from decide_eq_true h1, show decide (i < 2 ^ 64) = true from decide_eq_true h2]
  rfl
theorem mulOk_r {i j : Int} (h1 : -(2 ^ 64) < j) (h2 : j < 2 ^ 64) : mulOk i j = true := by
  unfold mulOk
  rw [show decide (-(2 ^ 64) < j) = true from decide_eq_true h1, show decide (j < 2 ^ 64) = true from decide_eq_true h2]
  simp
/-- the dict of draws -/
def kvD (g c : Nat) (r t : Int) : List (Key × D) := [(.inr "great", .ref g), (.inr "cells", .ref c), (.inr "rest", .int r), (.inr "turn", .int t)]
theorem kd_g (g c : Nat) (r t : Int) : look (kvD g c r t) (.inr "great") = some (.ref g) := l5_hit
theorem kd_c (g c : Nat) (r t : Int) : look (kvD g c r t) (.inr "cells") = some (.ref c) := by
  unfold kvD
  rw [l5_off (by decide +kernel), l5_hit]
theorem kd_r (g c : Nat) (r t : Int) : look (kvD g c r t) (.inr "rest") = some (.int r) := by
  unfold kvD
  rw [l5_off (by decide +kernel), l5_off (by decide +kernel), l5_hit]
theorem kd_t (g c : Nat) (r t : Int) : look (kvD g c r t) (.inr "turn") = some (.int t) := by
  unfold kvD
  rw [l5_off (by decide +kernel), l5_off (by decide +kernel), l5_off (by decide +kernel), l5_hit]
theorem repl_off {k z : Str} {v d : D} {r : List (Key × D)} (h : decide (k = z) = false) : repl (((.inr k : Key), v) :: r) (.inr z) d = (.inr k, v) :: repl r (.inr z) d := by
  show (if (Sum.inr k : Key) = .inr z then _ else _) :: _ = _
  rw [if_neg fun e => of_decide_eq_false h (Sum.inr.inj e)]
theorem repl_hit {z : Str} {v d : D} {r : List (Key × D)} : repl (((.inr z : Key), v) :: r) (.inr z) d = (.inr z, d) :: repl r (.inr z) d := by
  show (if (Sum.inr z : Key) = .inr z then _ else _) :: _ = _
  rw [if_pos rfl]
theorem put_r (g c : Nat) (r t r2 : Int) : put (kvD g c r t) (.inr "rest") (.int r2) = kvD g c r2 t := by
  unfold put
  rw [kd_r]
  show repl (kvD g c r t) (.inr "rest") (.int r2) = _
  unfold kvD
  rw [repl_off (by decide +kernel), repl_off (by decide +kernel), repl_hit, repl_off (by decide +kernel)]
  rfl
theorem put_t (g c : Nat) (r t t2 : Int) : put (kvD g c r t) (.inr "turn") (.int t2) = kvD g c r t2 := by
  unfold put
  rw [kd_t]
  show repl (kvD g c r t) (.inr "turn") (.int t2) = _
  unfold kvD
  rw [repl_off (by decide +kernel), repl_off (by decide +kernel), repl_off (by decide +kernel), repl_hit]
  rfl
/-- the store holds a state of draws at n; turn at most T -/
structure Drw (n g c T : Nat) (st : S) : Prop where
  ng : n ≠ g
  nc : n ≠ c
  gc : g ≠ c
  dic : ∃ r t : Int, 0 ≤ r ∧ 0 ≤ t ∧ t ≤ T ∧ st[n]? = some (.dic (kvD g c r t))
  gr : ∃ gs : List Int, (∀ x ∈ gs, 0 ≤ x) ∧ gs.length ≤ 1000 ∧ st[g]? = some (.lst (gs.map .int))
  ce : ∃ cs : List Int, cs.length ≤ 1000 ∧ st[c]? = some (.lst (cs.map .int))
/-- what else stands in the store stays -/
def Kp (n g : Nat) (st s : S) : Prop := st.length ≤ s.length ∧ ∀ (i : Nat) (o : O), i ≠ n → i ≠ g → st[i]? = some o → s[i]? = some o
theorem Kp.refl (n g : Nat) (st : S) : Kp n g st st := ⟨Nat.le_refl _, fun _ _ _ _ h => h⟩
theorem Kp.trans {n g : Nat} {a b c : S} (h : Kp n g a b) (k : Kp n g b c) : Kp n g a c := ⟨Nat.le_trans h.1 k.1, fun i o h1 h2 e => k.2 i o h1 h2 (h.2 i o h1 h2 e)⟩
theorem Kp.app (n g : Nat) (st ex : S) : Kp n g st (st ++ ex) := ⟨by simp, fun i o _ _ e => ga e⟩
theorem Kp.set {n g m : Nat} {st : S} {o : O} (h : m = n ∨ m = g) : Kp n g st (st.set m o) := ⟨by simp, fun i o' h1 h2 e => by
  rw [List.getElem?_set_ne (by rcases h with rfl | rfl <;> omega)]
  exact e⟩
theorem Drw.app {n g c T : Nat} {st : S} (h : Drw n g c T st) (ex : S) : Drw n g c T (st ++ ex) := by
  obtain ⟨h1, h2, h3, ⟨r, t, e1, e2, e3, e4⟩, ⟨gs, e5, e6, e7⟩, ⟨cs, e8, e9⟩⟩ := h
  exact ⟨h1, h2, h3, ⟨r, t, e1, e2, e3, ga e4⟩, ⟨gs, e5, e6, ga e7⟩, ⟨cs, e8, ga e9⟩⟩
theorem Drw.up {n g c T T2 : Nat} {st : S} (h : Drw n g c T st) (i : T ≤ T2) : Drw n g c T2 st := by
  obtain ⟨h1, h2, h3, ⟨r, t, e1, e2, e3, e4⟩, h5, h6⟩ := h
  exact ⟨h1, h2, h3, ⟨r, t, e1, e2, by omega, e4⟩, h5, h6⟩
end K37


namespace K37
open PySem Mx
open L2 (Key)
theorem fmod_lt {a b : Int} (h : 0 < b) : 0 ≤ a.fmod b ∧ a.fmod b < b := ⟨Int.fmod_nonneg_of_pos a h, Int.fmod_lt_of_pos a h⟩
theorem mul_c1 (b : Int) : mulOk b 48271 = true := mulOk_r (by decide) (by decide)
theorem mul_c2 (b : Int) : mulOk b 2147483659 = true := mulOk_r (by decide) (by decide)
theorem mul_c3 (b : Int) : mulOk 69621 b = true := mulOk_l (by decide) (by decide)
theorem kvD_len {g c : Nat} {r t : Int} : (kvD g c r t).length ≤ 1000 := by show 4 ≤ 1000; decide
def primes : List Int := [2147483629, 2147483587, 2147483579, 2147483563]
theorem mixed_ok (k n g c T : Nat) (st : S) (h : Drw n g c T st) (hT : T ≤ 1000000) : Rn (tb (k + 1) .F_law_mixed [.ref n]) st fun d s => (∃ i : Int, 0 ≤ i ∧ d = .int i) ∧ Drw n g c (T + 1) s ∧ Kp n g st s := by
  obtain ⟨ng, nc, gc, ⟨r, t, r0, t0, tT, hd⟩, ⟨gs, g0, gl, hg⟩, ⟨cs, cl, hc⟩⟩ := h
  have nl : n < st.length := (List.getElem?_eq_some_iff.mp hd).1
  rw [t_b__law_mixed]
  simp [b__law_mixed, run_ixS hd, kd_t]
  rw [run_setS hd kvD_len]
  rw [put_t]
  have hd1 : (st.set n (.dic (kvD g c r (t + 1))))[n]? = some (.dic (kvD g c r (t + 1))) := List.getElem?_set_self nl
  have hc1 : (st.set n (.dic (kvD g c r (t + 1))))[c]? = some (.lst (cs.map .int)) := by rw [List.getElem?_set_ne nc]; exact hc
  have hg1 : (st.set n (.dic (kvD g c r (t + 1))))[g]? = some (.lst (gs.map .int)) := by rw [List.getElem?_set_ne ng]; exact hg
  have kp1 : Kp n g st (st.set n (.dic (kvD g c r (t + 1)))) := Kp.set (.inl rfl)
  generalize st.set n (.dic (kvD g c r (t + 1))) = s1 at hd1 hc1 hg1 kp1 ⊢
  simp [sz]
  rw [run_live gn]
  refine run_for (ds := primes.map .int) (fun i es s => ∃ (f : Int) (o1 o2 o3 : Option D) (ex : S), 0 ≤ f ∧ es = [some (.ref n), some (.int (t + 1)), some (.int f), o1, o2, o3] ∧ s = s1 ++ ex ∧ s[s1.length]? = some (.lst (primes.map .int))) (fun i es s ⟨f, o1, o2, o3, ex, e1, e2, e3, e4⟩ => live_at e4) ?_ ?_ _ _ _ _ ?_ ?_ ?_
  · rintro i d es s hd' ⟨f, o1, o2, o3, ex, f0, rfl, rfl, e4⟩
    obtain ⟨p, hp, rfl⟩ := memR (i := 0) hd'
    have hp2 : 0 < p ∧ p < 2147483648 := by
      have := List.mem_of_getElem? hp
      simp [primes] at this
      omega
    simp [mul_c3, run_ixS (ga hd1), kd_c]
    rw [run_live (ga hc1)]
    refine run_for (ds := cs.map .int) (fun j es s => ∃ (b : Int) (o3 : Option D), es = [some (.ref n), some (.int (t + 1)), some (.int f), some (.int p), some (.int b), o3] ∧ s = s1 ++ ex ∧ -(2 ^ 50) < b ∧ b < 2 ^ 50) (fun j es s ⟨b, o3, e1, e2, e3⟩ => live_at (by rw [e2]; exact ga hc1)) ?_ ?_ _ _ _ _ ?_ ?_ ?_
    · rintro j d es s hd'' ⟨b, o3, rfl, rfl, b1, b2⟩
      obtain ⟨x, hx, rfl⟩ := memR (i := 0) hd''
      have := fmod_lt (a := b * 48271 + x + (t + 1)) hp2.1
      simp [mul_c1]
      exact ⟨by omega, by omega, by omega⟩
    · rintro es s ⟨b, o3, rfl, rfl, b1, b2⟩
      have := fmod_lt (a := b ^ 5) hp2.1
      simp [mul_c2]
      refine ⟨by omega, by omega, _, ?_, rfl, e4⟩
      omega
    · exact lt0 (by simpa using cl)
    · exact Nat.zero_le _
    · refine ⟨_, _, rfl, rfl, ?_, ?_⟩
      · have : 0 ≤ p.fdiv 41 := Int.fdiv_nonneg (by omega) (by decide)
        omega
      · have : p.fdiv 41 ≤ p := Int.fdiv_le_self _ (by omega)
        omega
  · rintro es s ⟨f, o1, o2, o3, ex, f0, rfl, rfl, e4⟩
    simp
    refine ⟨f0, ⟨ng, nc, gc, ⟨r, t + 1, r0, by omega, by omega, ga hd1⟩, ⟨gs, g0, gl, ga hg1⟩, ⟨cs, cl, ga hc1⟩⟩, kp1.trans (Kp.app ..)⟩
  · exact lt0 (by decide)
  · exact Nat.zero_le _
  · exact ⟨0, none, none, none, [.lst (primes.map .int)], by decide, rfl, by simp [primes], by simp [primes]⟩
theorem run_neL {st : S} {Q : D → S → Prop} {n m : Nat} {l : List Int} (h : st[n]? = some (.lst (l.map .int))) (h2 : st[m]? = some (.lst [])) : Rn (neO (.ref n) (.ref m)) st Q = Q (.bl (!decide (l = []))) st := by
  have e : toPy st 64 (.ref n) = some (.list (l.map PyData.int)) := by
    unfold toPy
    rw [h]
    show (match mapO (toPy st 63) (l.map .int) with | some ps => some (PyData.list ps) | none => none) = _
    rw [toPy_ints l 62]
  have e2 : toPy st 64 (.ref m) = some (.list []) := by
    unfold toPy
    rw [h2]
    rfl
  rw [run_neO, e, e2]
  show Q (.bl (!PyData.eqv (.list (l.map PyData.int)) (.list []))) st = _
  cases l with
  | nil => rw [List.map_nil, PyData.eqv, PyData.eqvAll]; simp
  | cons j l => rw [List.map_cons, PyData.eqv, PyData.eqvAll]; simp
theorem run_pop0 {st : S} {Q : D → S → Prop} {n : Nat} {x : D} {xs : List D} (h : st[n]? = some (.lst (x :: xs))) : Rn (popD (.ref n) [.int 0]) st Q = Q x (st.set n (.lst xs)) := by
  show Rn (lstAt n >>= _) st Q = _
  rw [run_bind, run_some (lstAt_of h)]
  have e : seqIndex? 0 (x :: xs).length = some 0 := by
    unfold seqIndex?
    simp
  rw [e]
  rfl
theorem draw1 (k n g c T : Nat) (room : Int) (st : S) (h : Drw n g c T st) (hT : T ≤ 1000000) : Rn (ifD (tstD (opD eqO (opD ixD (varD 0) (cD (.str "rest"))) (cD (.int 0)))) (asgS (ifD (tstD (opD neO (opD ixD (varD 0) (cD (.str "great"))) (lstD (nilA)))) (lmD popD (opD ixD (varD 0) (cD (.str "great"))) (consA (cD (.int 0)) (nilA))) (callD (tb (k + 1) .F_law_mixed) (consA (varD 0) (nilA)))) (subG (varD 0) (cD (.str "rest")))) nxS [some (.ref n), some (.int room), none]) st fun p s => p = ([some (.ref n), some (.int room), none], .nx) ∧ Drw n g c (T + 1) s ∧ Kp n g st s := by
  have h' := h
  obtain ⟨ng, nc, gc, ⟨r, t, r0, t0, tT, hd⟩, ⟨gs, g0, gl, hg⟩, ⟨cs, cl, hc⟩⟩ := h
  by_cases hr : r = 0
  · subst hr
    simp [run_ixS hd, kd_r, kd_g]
    rw [run_neL (l := gs) (ga hg) (by simp)]
    cases gs with
    | nil =>
      simp
      refine (mixed_ok k n g c T (st ++ [.lst []]) (h'.app _) hT).mono fun d s ⟨⟨i, i0, e⟩, h2, kp⟩ => ?_
      subst e
      obtain ⟨ng, nc, gc, ⟨r, t, r0, t0, tT, hd⟩, ⟨gs, g0, gl, hg⟩, ⟨cs, cl, hc⟩⟩ := h2
      have nl : n < s.length := (List.getElem?_eq_some_iff.mp hd).1
      simp
      rw [run_setS hd kvD_len, put_r]
      refine ⟨rfl, ⟨ng, nc, gc, ⟨i, t, i0, t0, tT, List.getElem?_set_self nl⟩, ⟨gs, g0, gl, ?_⟩, ⟨cs, cl, ?_⟩⟩, ((Kp.app ..).trans kp).trans (Kp.set (.inl rfl))⟩
      · rw [List.getElem?_set_ne ng]; exact hg
      · rw [List.getElem?_set_ne nc]; exact hc
    | cons x gs =>
      simp
      rw [run_ixS (ga hd), kd_g]
      simp
      rw [run_isLst (ga hg)]
      simp
      rw [run_pop0 (ga hg)]
      simp
      have hd2 : ((st ++ [O.lst []]).set g (.lst (gs.map .int)))[n]? = some (.dic (kvD g c 0 t)) := by rw [List.getElem?_set_ne (Ne.symm ng)]; exact ga hd
      have nl : n < ((st ++ [O.lst []]).set g (.lst (gs.map .int))).length := (List.getElem?_eq_some_iff.mp hd2).1
      have gl2 : g < (st ++ [O.lst []]).length := (List.getElem?_eq_some_iff.mp (ga hg)).1
      rw [run_setS hd2 kvD_len, put_r]
      refine ⟨rfl, ⟨ng, nc, gc, ⟨x, t, g0 x (List.mem_cons_self ..), t0, by omega, List.getElem?_set_self nl⟩, ⟨gs, fun y hy => g0 y (List.mem_cons_of_mem _ hy), by simp at gl; omega, ?_⟩, ⟨cs, cl, ?_⟩⟩, ((Kp.app ..).trans (Kp.set (.inr rfl))).trans (Kp.set (.inl rfl))⟩
      · rw [List.getElem?_set_ne ng]; exact List.getElem?_set_self gl2
      · rw [List.getElem?_set_ne nc, List.getElem?_set_ne gc]; exact ga hc
  · simp [run_ixS hd, kd_r, hr]
    exact ⟨h'.up (by omega), Kp.refl ..⟩
/-- one draw: the state after it -/
theorem draw_ok (k n g c T : Nat) (room : Int) (st : S) (h : Drw n g c T st) (hT : T ≤ 1000000) (h1 : 0 < room) (h2 : room ≤ 1000) : Rn (tb (k + 2) .F_law_draw [.ref n, .int room]) st fun d s => (∃ i : Int, 0 ≤ i ∧ i < room ∧ d = .int i) ∧ Drw n g c (T + 1) s ∧ Kp n g st s := by
  rw [t_b__law_draw]
  simp only [b__law_draw, run_fn]
  refine ⟨rfl, ?_⟩
  rw [run_seq]
  refine (draw1 k n g c T room st h hT).mono fun p s ⟨e, h, kp⟩ => ?_
  subst e
  obtain ⟨ng, nc, gc, ⟨r, t, r0, t0, tT, hd⟩, ⟨gs, g0, gl, hg⟩, ⟨cs, cl, hc⟩⟩ := h
  have nl : n < s.length := (List.getElem?_eq_some_iff.mp hd).1
  have hm := fmod_lt (a := r) h1
  simp [run_ixS hd, kd_r]
  refine ⟨by omega, by omega, ?_⟩
  rw [run_setS hd kvD_len]
  refine ⟨⟨_, hm.1, hm.2, rfl⟩, ⟨ng, nc, gc, ⟨r.fdiv room, t, Int.fdiv_nonneg r0 (by omega), t0, tT, ?_⟩, ⟨gs, g0, gl, ?_⟩, ⟨cs, cl, ?_⟩⟩, kp.trans (Kp.set (.inl rfl))⟩
  · rw [put_r]; exact List.getElem?_set_self nl
  · rw [List.getElem?_set_ne ng]; exact hg
  · rw [List.getElem?_set_ne nc]; exact hc
end K37


namespace K37
open PySem Mx
open L2 (Key)
theorem pick_ok (k n g c T m : Nat) (xs : List D) (st : S) (h : Drw n g c T st) (hT : T ≤ 1000000) (hm : st[m]? = some (.lst xs)) (mn : m ≠ n) (mg : m ≠ g) (h1 : 0 < xs.length) (h2 : xs.length ≤ 1000) : Rn (tb (k + 3) .F_law_pick [.ref n, .ref m]) st fun d s => d ∈ xs ∧ Drw n g c (T + 1) s ∧ Kp n g st s := by
  rw [t_b__law_pick]
  simp [b__law_pick, run_lenR hm]
  refine (draw_ok k n g c T xs.length st h hT (by omega) (by omega)).mono fun d s ⟨⟨i, i0, i1, e⟩, h3, kp⟩ => ?_
  subst e
  have hi : xs[i.toNat]? = some xs[i.toNat] := List.getElem?_eq_getElem (by omega)
  rw [run_ixR (kp.2 _ _ mn mg hm), at_pos i0 hi]
  simp
  exact ⟨h3, kp⟩
theorem Drw.lt {n g c T : Nat} {st : S} (h : Drw n g c T st) : n < st.length ∧ g < st.length := by
  obtain ⟨ng, nc, gc, ⟨r, t, r0, t0, tT, hd⟩, ⟨gs, g0, gl, hg⟩, ⟨cs, cl, hc⟩⟩ := h
  exact ⟨(List.getElem?_eq_some_iff.mp hd).1, (List.getElem?_eq_some_iff.mp hg).1⟩
theorem pickNew (k n g c T : Nat) (xs : List D) (st : S) (h : Drw n g c T st) (hT : T ≤ 1000000) (h1 : 0 < xs.length) (h2 : xs.length ≤ 1000) : Rn (tb (k + 3) .F_law_pick [.ref n, .ref st.length]) (st ++ [.lst xs]) fun d s => d ∈ xs ∧ Drw n g c (T + 1) s ∧ Kp n g st s := by
  have := h.lt
  refine (pick_ok k n g c T st.length xs (st ++ [.lst xs]) (h.app _) hT gn (by omega) (by omega) h1 h2).mono fun d s ⟨e1, e2, e3⟩ => ?_
  exact ⟨e1, e2, (Kp.app ..).trans e3⟩
/-- draws of a pattern at most -/
def Bd : Nat → Nat
  | 0 => 2
  | n + 1 => 2 + (Bd n + Bd n)
def sp1 (L : Nat) (g : Fn → List D → M D) : Es → M (Es × Fl) := asgS (ifD (tstD (opD gtO (varD 2) (cD (.int 1)))) (callD (g .F_law_draw) (consA (varD 0) (consA (cD (.int 7)) (nilA)))) (callD (g .F_law_draw) (consA (varD 0) (consA (cD (.int 2)) (nilA))))) (nameG 3)
def sp2 (L : Nat) (g : Fn → List D → M D) : Es → M (Es × Fl) := ifD (tstD (opD eqO (varD 3) (cD (.int 0)))) (retS (tupD (consA (cD (.str "none")) (nilA)))) (nxS)
def sp3 (L : Nat) (g : Fn → List D → M D) : Es → M (Es × Fl) := ifD (tstD (opD ltO (varD 3) (cD (.int 3)))) (retS (tupD (consA (cD (.str "item")) (consA (callD (g .F_law_pick) (consA (varD 0) (consA (varD 1) (nilA)))) (nilA))))) (nxS)
def sp4 (L : Nat) (g : Fn → List D → M D) : Es → M (Es × Fl) := ifD (tstD (opD eqO (varD 3) (cD (.int 3)))) (retS (tupD (consA (cD (.str "many")) (consA (callD (g .F_law_some_pattern) (consA (varD 0) (consA (varD 1) (consA (opD (binD .Sub) (varD 2) (cD (.int 1))) (nilA))))) (nilA))))) (nxS)
def sp5 (L : Nat) (g : Fn → List D → M D) : Es → M (Es × Fl) := retS (tupD (consA (callD (g .F_law_pick) (consA (varD 0) (consA (lstD (consA (cD (.str "row")) (consA (cD (.str "row")) (consA (cD (.str "either")) (nilA))))) (nilA)))) (consA (callD (g .F_law_some_pattern) (consA (varD 0) (consA (varD 1) (consA (opD (binD .Sub) (varD 2) (cD (.int 1))) (nilA))))) (consA (callD (g .F_law_some_pattern) (consA (varD 0) (consA (varD 1) (consA (opD (binD .Sub) (varD 2) (cD (.int 1))) (nilA))))) (nilA)))))
theorem b__law_some_pattern_cut (L : Nat) (g : Fn → List D → M D) : b__law_some_pattern L g = seqS (sp1 L g) (seqS (sp2 L g) (seqS (sp3 L g) (seqS (sp4 L g) (sp5 L g)))) := rfl
theorem some1 (n g c m k T : Nat) (dp : Nat) (st : S) (h : Drw n g c T st) (hT : T ≤ 1000000) : Rn (sp1 L0 (tb (k + 3)) [some (.ref n), some (.ref m), some (.int dp), none]) st fun p s => ∃ i : Int, 0 ≤ i ∧ i < 7 ∧ (dp ≤ 1 → i < 2) ∧ p = ([some (.ref n), some (.ref m), some (.int dp), some (.int i)], .nx) ∧ Drw n g c (T + 1) s ∧ Kp n g st s := by
  simp [sp1]
  by_cases hd : 1 < dp
  · rw [if_pos (by omega)]
    refine (draw_ok (k + 1) n g c T 7 st h hT (by decide) (by decide)).mono fun d s ⟨⟨i, i0, i1, e⟩, h3, kp⟩ => ?_
    exact ⟨i, i0, i1, by omega, by subst e; rfl, h3, kp⟩
  · rw [if_neg (by omega)]
    refine (draw_ok (k + 1) n g c T 2 st h hT (by decide) (by decide)).mono fun d s ⟨⟨i, i0, i1, e⟩, h3, kp⟩ => ?_
    exact ⟨i, i0, by omega, by omega, by subst e; rfl, h3, kp⟩
theorem some_ok (n g c m : Nat) (NM : List Str) (hN : 0 < NM.length) (hN2 : NM.length ≤ 1000) (mn : m ≠ n) (mg : m ≠ g) : ∀ (dp k T : Nat) (st : S), Drw n g c T st → st[m]? = some (.lst (NM.map .str)) → dp + 5 ≤ k → T + Bd dp ≤ 1000000 →
    Rn (tb k .F_law_some_pattern [.ref n, .ref m, .int dp]) st fun d s => ∃ p : Pat Str, d = p.toD id ∧ p.deep ≤ max dp 1 ∧ (∀ a ∈ p.items, a ∈ NM) ∧ Drw n g c (T + Bd dp) s ∧ Kp n g st s
  | dp, 0, T, st, h, hm, hk, hT => by omega
  | dp, k + 1, T, st, h, hm, hk, hT => by
    obtain ⟨k, rfl⟩ : ∃ k', k = k' + 3 := ⟨k - 3, by omega⟩
    have hB : 2 ≤ Bd dp := by cases dp <;> simp [Bd] <;> omega
    rw [t_b__law_some_pattern]
    simp only [b__law_some_pattern_cut, run_fn]
    refine ⟨rfl, ?_⟩
    rw [run_seq]
    refine (some1 n g c m k T dp st h (by omega)).mono fun p s ⟨i, i0, i1, i2, e, h1, kp1⟩ => ?_
    subst e
    have hm1 := kp1.2 _ _ mn mg hm
    by_cases e0 : i = 0
    · subst e0
      simp [sp2, sz]
      exact ⟨.none, rfl, by simp [Pat.deep]; omega, fun a ha => by simp [Pat.items] at ha, h1.up (by omega), kp1⟩
    by_cases e1 : i < 3
    · simp [sp2, sp3, sz, e0, e1]
      refine (pick_ok k n g c (T + 1) m (NM.map .str) s h1 (by omega) hm1 mn mg (by simpa using hN) (by simpa using hN2)).mono fun d s2 ⟨h2, h3, kp2⟩ => ?_
      obtain ⟨x, hx, rfl⟩ := List.mem_map.mp h2
      simp [sz]
      exact ⟨.item x, rfl, by simp [Pat.deep]; omega, fun a ha => by simp [Pat.items] at ha; subst ha; exact hx, h3.up (by omega), kp1.trans kp2⟩
    have hd : 1 < dp := by omega
    obtain ⟨dp, rfl⟩ : ∃ d', dp = d' + 1 := ⟨dp - 1, by omega⟩
    have hB2 : Bd (dp + 1) = 2 + (Bd dp + Bd dp) := rfl
    have ed : ((dp + 1 : Nat) : Int) - 1 = (dp : Nat) := by omega
    by_cases e3 : i = 3
    · subst e3
      simp [sp2, sp3, sp4, sz]
      refine (some_ok n g c m NM hN hN2 mn mg dp (k + 3) (T + 1) s h1 hm1 (by omega) (by omega)).mono fun d s2 ⟨p, e, h2, h3, h4, kp2⟩ => ?_
      subst e
      simp [sz]
      exact ⟨.many p, rfl, by simp [Pat.deep]; omega, h3, h4.up (by omega), kp1.trans kp2⟩
    · simp [sp2, sp3, sp4, sp5, sz, e0, e1, e3]
      refine (pickNew k n g c (T + 1) [.str "row", .str "row", .str "either"] s h1 (by omega) (by decide) (by decide)).mono fun x s2 ⟨hx, h2, kp2⟩ => ?_
      have hm2 := kp2.2 _ _ mn mg hm1
      simp
      refine (some_ok n g c m NM hN hN2 mn mg dp (k + 3) (T + 2) s2 h2 hm2 (by omega) (by omega)).mono fun d s3 ⟨p, e, p1, p2, h3, kp3⟩ => ?_
      subst e
      have hm3 := kp3.2 _ _ mn mg hm2
      simp
      refine (some_ok n g c m NM hN hN2 mn mg dp (k + 3) (T + 2 + Bd dp) s3 h3 hm3 (by omega) (by omega)).mono fun d s4 ⟨q, e, q1, q2, h4, kp4⟩ => ?_
      subst e
      have kp := ((kp1.trans kp2).trans kp3).trans kp4
      have hB3 : Drw n g c (T + Bd (dp + 1)) s4 := h4.up (by omega)
      simp [sz]
      have hx' : x = .str "row" ∨ x = .str "either" := by simpa using hx
      rcases hx' with rfl | rfl
      · exact ⟨.row p q, rfl, by simp [Pat.deep]; omega, fun a ha => (List.mem_append.mp ha).elim (p2 a) (q2 a), hB3, kp⟩
      · exact ⟨.either p q, rfl, by simp [Pat.deep]; omega, fun a ha => (List.mem_append.mp ha).elim (p2 a) (q2 a), hB3, kp⟩
end K37


namespace K37
open PySem Mx
open L2 (Key)
theorem run_disp {prs : List ((Es → M D) × (Es → M D))} {es : Es} {st : S} {Q : D → S → Prop} : Rn (dispD prs es) st Q = Rn (pairsD prs es) st fun kvs s => kvs.length ≤ 15 ∧ Q (.ref s.length) (s ++ [.dic (merge [] kvs)]) := by
  unfold dispD
  repeat (first | rfl | rw [run_bind] | simp only [run_guard, run_new, run_pure, decide_eq_true_eq] | refine Rn_q (funext fun _ => funext fun _ => ?_))
theorem run_pnil {es : Es} {st : S} {QL : List (Key × D) → S → Prop} : Rn (pairsD [] es) st QL = QL [] st := rfl
theorem run_pcons {z : Str} {b : Es → M D} {r : List ((Es → M D) × (Es → M D))} {es : Es} {st : S} {QL : List (Key × D) → S → Prop} : Rn (pairsD ((cD (.str z), b) :: r) es) st QL = Rn (b es) st fun y s => Rn (pairsD r es) s fun kvs s2 => QL ((.inr z, y) :: kvs) s2 := by
  have e : pairsD ((cD (.str z), b) :: r) es = (do
      let x ← cD (.str z) es
      let y ← b es
      match keyD x with
        | some k => do
          let rest ← pairsD r es
          pure ((k, y) :: rest)
        | none => fail) := rfl
  rw [e, run_bind, run_c, run_bind]
  refine Rn_q (funext fun y => funext fun s => ?_)
  show Rn (pairsD r es >>= _) s QL = _
  rw [run_bind]
  rfl
theorem merge_kvD (g c : Nat) : merge [] (kvD g c 0 0) = kvD g c 0 0 := merge_nd (by show ((kvD g c 0 0).map (·.1)).Nodup; show List.Nodup [(Sum.inr "great" : Key), .inr "cells", .inr "rest", .inr "turn"]; decide +kernel)
@[simp] theorem run_seqR {ds : List D} {st : S} {QR : Src → S → Prop} : Rn (seqSrc (.rol ds)) st QR = QR (.seq ds) st := rfl
end K37


namespace K37
open PySem Mx
open L2 (Key)
/-- just what the first statement leaves -/
theorem begun_ex (k : Nat) (ns : List Int) (hl : ns.length ≤ 63) : Rn (tb (k + 1) .F_law_begun [.rol (ns.map .int)]) [] fun d s => d = .ref 2 ∧ (∃ a b c, s = [a, b, c]) ∧ Drw 2 0 1 0 s := by
  rw [t_b__law_begun]
  simp [b__law_begun, -run_lc]
  rw [run_lc]
  simp [-run_lc]
  refine run_lapC (ds := ns.map .int) (fun i acc s => ∃ gs : List Int, acc = gs.map .int ∧ gs.length ≤ i ∧ (∀ x ∈ gs, 0 ≤ x) ∧ s = []) (fun i acc s _ => rfl) ?_ ?_ _ _ _ _ ?_ ?_ ?_
  · rintro i d acc s hd ⟨gs, rfl, h1, h2, rfl⟩
    obtain ⟨x, hx, rfl⟩ := memR (i := 0) hd
    have hi : i < ns.length := (List.getElem?_eq_some_iff.mp hx).1
    simp [wipeE]
    generalize (if x < 0 then -x else x) = y
    split
    · rename_i hy
      refine ⟨sz3 (by omega), gs ++ [y - 1000000000000000000], by simp, by simp; omega, fun z hz => ?_⟩
      rcases List.mem_append.mp hz with hz | hz
      · exact h2 z hz
      · rw [List.mem_singleton.mp hz]; omega
    · exact ⟨gs, rfl, by omega, h2⟩
  · rintro acc s1 ⟨gs, rfl, h1, h2, rfl⟩
    simp [-run_lc, run_disp, run_pcons, run_pnil]
    rw [run_lc]
    simp [-run_lc]
    refine run_lapC (ds := ns.map .int) (fun i acc s => ∃ cs : List Int, acc = cs.map .int ∧ cs.length ≤ i ∧ s = [.lst (gs.map .int)]) (fun i acc s _ => rfl) ?_ ?_ _ _ _ _ ?_ ?_ ?_
    · rintro i d acc s hd ⟨cs, rfl, h3, rfl⟩
      obtain ⟨x, hx, rfl⟩ := memR (i := 0) hd
      have hi : i < ns.length := (List.getElem?_eq_some_iff.mp hx).1
      simp [wipeE]
      exact ⟨sz3 (by omega), cs ++ [if x < 0 then -x else x], by simp, by simp; omega⟩
    · rintro acc s ⟨cs, rfl, h3, rfl⟩
      simp at h1 h3
      simp [run_pcons, run_pnil]
      have := merge_kvD 0 1
      unfold kvD at this
      rw [this]
      exact ⟨by decide, by decide, by decide, ⟨0, 0, by decide, by decide, by decide, rfl⟩, ⟨gs, h2, by omega, rfl⟩, ⟨cs, by omega, rfl⟩⟩
    · exact lt0 (by simpa using (by omega : ns.length ≤ 1000))
    · exact Nat.zero_le _
    · exact ⟨[], rfl, by simp, rfl⟩
  · exact lt0 (by simpa using (by omega : ns.length ≤ 1000))
  · exact Nat.zero_le _
  · exact ⟨[], rfl, by simp, by simp, rfl⟩
end K37


namespace K37
open PySem Mx
def lw1 (L : Nat) (g : Fn → List D → M D) : Es → M (Es × Fl) := asgS (callD (g .F_law_begun) (consA (varD 0) (nilA))) (nameG 1)
def lw2 (L : Nat) (g : Fn → List D → M D) : Es → M (Es × Fl) := forS L (overS (lstD (consA (tupD (consA (cD (.int 0)) (consA (cD (.int 8)) (nilA)))) (consA (tupD (consA (cD (.int 1)) (consA (cD (.int 6)) (nilA)))) (consA (tupD (consA (cD (.int 2)) (consA (cD (.int 7)) (nilA)))) (consA (tupD (consA (cD (.int 3)) (consA (cD (.int 6)) (nilA)))) (consA (tupD (consA (cD (.int 4)) (consA (cD (.int 6)) (nilA)))) (consA (tupD (consA (cD (.int 5)) (consA (cD (.int 6)) (nilA)))) (consA (tupD (consA (cD (.int 6)) (consA (cD (.int 8)) (nilA)))) (consA (tupD (consA (cD (.int 7)) (consA (cD (.int 6)) (nilA)))) (nilA))))))))))) (tupG 2 (consG (nameG 2) (consG (nameG 3) (nilG)))) (seqS (ifD (orT (tstD (opD isnO (callD (g .Fis_book) (consA (callD (g .F_law_wide) (consA (varD 2) (consA (varD 3) (nilA)))) (nilA))) (cD (.bl true)))) (tstD (opD isnO (callD (g .Fis_book) (consA (callD (g .F_law_wide) (consA (varD 2) (consA (opD (binD .Add) (varD 3) (cD (.int 1))) (nilA)))) (nilA))) (cD (.bl false))))) (retS (cD (.bl false))) (nxS)) (ifD (orT (andT (tstD (opD eqO (varD 2) (cD (.int 4)))) (tstD (opD neO (callD (on1 lenD) (consA (callD (g .Ftests_of) (consA (callD (g .F_law_wide) (consA (varD 2) (consA (varD 3) (nilA)))) (nilA))) (nilA))) (cD (.int 6))))) (andT (tstD (opD eqO (varD 2) (cD (.int 5)))) (tstD (opD neO (callD (on1 lenD) (consA (callD (g .Fknown_of) (consA (callD (g .F_law_wide) (consA (varD 2) (consA (varD 3) (nilA)))) (nilA))) (nilA))) (cD (.int 6)))))) (retS (cD (.bl false))) (nxS)))
def lw3 (L : Nat) (g : Fn → List D → M D) : Es → M (Es × Fl) := parS 4 5 (consA (tupD (consA (cD (.str "<")) (consA (tupD (consA (cD (.str "number")) (consA (cD (.int 1)) (consA (cD (.int 0)) (nilA))))) (nilA)))) (consA (lcD L [8] (rng1S (cD (.int 6))) (nameG 8) (yesT) (tupD (consA (tupD (consA (varD 8) (nilA))) (consA (cD (.str "a")) (consA (cD (.str "asked")) (nilA)))))) (nilA)))
def lw4 (L : Nat) (g : Fn → List D → M D) : Es → M (Es × Fl) := ifD (tstD (opD isnO (callD (g .Fis_book) (consA (dispD ((cD (.str "a"), tupD (consA (tupD (consA (cD (.str "number")) (consA (opD (binD .Mult) (tupD (consA (varD 4) (nilA))) (cD (.int 9))) (nilA)))) (consA (tupD (consA (cD (.str "number")) (consA (tupD (consA (varD 4) (nilA))) (nilA)))) (consA (tupD (consA (cD (.str "object")) (consA (callD (on1 tupleD) (consA (varD 5) (nilA))) (consA (cD .non) (nilA))))) (consA (tupD (consA (cD (.str "object")) (consA (callD (on1 tupleD) (consA (revD (varD 5)) (nilA))) (consA (cD (.str "a")) (nilA))))) (nilA)))))) :: [])) (nilA))) (cD (.bl true)))) (retS (cD (.bl false))) (nxS)
def lw5 (L : Nat) (g : Fn → List D → M D) : Es → M (Es × Fl) := forS L (rng1S (cD (.int 6))) (nameG 6) (seqS (asgS (callD (g .F_law_some_book) (consA (varD 1) (consA (cD (.int 3)) (nilA)))) (nameG 7)) (ifD (orT (tstD (opD isnO (callD (g .Fis_book) (consA (varD 7) (nilA))) (cD (.bl true)))) (orT (tstD (opD isnO (callKD (g .Fis_book) sameO (consA (varD 7) (nilA))) (cD (.bl true)))) (tstD (opD isnO (callD (g .Fis_book) (consA (callD (g .F_law_some_bent) (consA (varD 1) (consA (varD 7) (nilA)))) (nilA))) (cD (.bl false)))))) (retS (cD (.bl false))) (nxS)))
def lw6 (L : Nat) (g : Fn → List D → M D) : Es → M (Es × Fl) := retS (opD isO (callD (g .Fis_book) (consA (callD (on1 dictE) (consA (lcD L [9] (overS (revD (callD (g .F_law_names) (consA (cD (.int 3)) (nilA))))) (nameG 9) (yesT) (tupD (consA (varD 9) (consA (tupD (nilA)) (nilA))))) (nilA))) (nilA))) (cD (.bl true)))
theorem b_law_cut (L : Nat) (g : Fn → List D → M D) : b_law L g = seqS (lw1 L g) (seqS (lw2 L g) (seqS (lw3 L g) (seqS (lw4 L g) (seqS (lw5 L g) (lw6 L g))))) := rfl
@[irreducible] def A2 : Es → M (Es × Fl) := lw2 L0 (tb 38)
@[irreducible] def A3 : Es → M (Es × Fl) := lw3 L0 (tb 38)
@[irreducible] def A4 : Es → M (Es × Fl) := lw4 L0 (tb 38)
theorem seq_assoc (a b c : Es → M (Es × Fl)) (es : Es) (st : S) (Q : Es × Fl → S → Prop) : Rn (seqS a (seqS b c) es) st Q = Rn (seqS (seqS a b) c es) st Q := by
  rw [run_seq, run_seq, run_seq]
  refine Rn_q (funext fun p => funext fun s => ?_)
  obtain ⟨e, f⟩ := p
  cases f
  · simp only [run_seq]
  all_goals rfl
/-- what needs no draw, run -/
theorem mid_ran (x : Option D) (a b c : O) : (seqS A2 (seqS A3 A4) [x, some (.ref 2), none, none, none, none, none, none, none, none] [a, b, c]).map (fun p => (p.1.2, p.1.1.take 2, p.1.1.length, p.2.take 3)) = some (.nx, [x, some (.ref 2)], 10, [a, b, c]) := by kernel_rfl
theorem from_ran {m : M (Es × Fl)} {st : S} {f : Fl} {l : Es} {n : Nat} {s0 : S} (e : (m st).map (fun p => (p.1.2, p.1.1.take 2, p.1.1.length, p.2.take 3)) = some (f, l, n, s0)) : Rn m st fun p s => p.2 = f ∧ p.1.take 2 = l ∧ p.1.length = n ∧ s.take 3 = s0 := by
  cases q : m st with
  | none => rw [q] at e; cases e
  | some p =>
    rw [q] at e
    have e2 := Option.some.inj e
    simp only [Prod.mk.injEq] at e2
    exact (run_some (m := m) (a := p.1) (s := p.2) q) ▸ ⟨e2.1, e2.2.1, e2.2.2.1, e2.2.2.2⟩
theorem seq_assoc3 (a b c r : Es → M (Es × Fl)) (es : Es) (st : S) (Q : Es × Fl → S → Prop) : Rn (seqS a (seqS b (seqS c r)) es) st Q = Rn (seqS (seqS a (seqS b c)) r es) st Q := by
  rw [run_seq (a := a), run_seq (a := seqS a (seqS b c)), run_seq (a := a)]
  refine Rn_q (funext fun p => funext fun s => ?_)
  obtain ⟨e, f⟩ := p
  cases f
  · exact (seq_assoc b c r e s Q).trans (run_seq (a := seqS b c))
  all_goals rfl
theorem ten {e : Es} {p q : Option D} (h : e.take 2 = [p, q]) (hl : e.length = 10) : ∃ y2 y3 y4 y5 y6 y7 y8 y9, e = [p, q, y2, y3, y4, y5, y6, y7, y8, y9] := by
  match e, h, hl with
  | [y0, y1, y2, y3, y4, y5, y6, y7, y8, y9], h, _ =>
    simp at h
    obtain ⟨rfl, rfl⟩ := h
    exact ⟨_, _, _, _, _, _, _, _, rfl⟩
theorem mid_gen (A B C r : Es → M (Es × Fl)) (es0 : Es) (st : S) (x : Option D) (a b c : O) (Q : Es × Fl → S → Prop) (f : Rn (seqS A (seqS B C) es0) st fun p s => p.2 = .nx ∧ p.1.take 2 = [x, some (.ref 2)] ∧ p.1.length = 10 ∧ s.take 3 = [a, b, c])
    (h : ∀ y z w u v o1 o2 o3 ex, Rn (r [x, some (.ref 2), y, z, w, u, v, o1, o2, o3]) ([a, b, c] ++ ex) Q) : Rn (seqS A (seqS B (seqS C r)) es0) st Q := by
  rw [seq_assoc3, run_seq (a := seqS A (seqS B C))]
  refine f.mono fun p s ⟨h1, h2, h3, h4⟩ => ?_
  obtain ⟨e, fl⟩ := p
  have h1' : fl = .nx := h1
  subst h1'
  obtain ⟨y2, y3, y4, y5, y6, y7, y8, y9, rfl⟩ := ten h2 h3
  have e2 : s = [a, b, c] ++ s.drop 3 := by rw [← h4, List.take_append_drop]
  have g := h y2 y3 y4 y5 y6 y7 y8 y9 (s.drop 3)
  rw [← e2] at g
  exact g
theorem mid_ok (x : Option D) (a b c : O) (r : Es → M (Es × Fl)) (Q : Es × Fl → S → Prop) (h : ∀ y z w u v o1 o2 o3 ex, Rn (r [x, some (.ref 2), y, z, w, u, v, o1, o2, o3]) ([a, b, c] ++ ex) Q) : Rn (seqS A2 (seqS A3 (seqS A4 r)) [x, some (.ref 2), none, none, none, none, none, none, none, none]) [a, b, c] Q :=
  mid_gen A2 A3 A4 r _ _ x a b c Q (from_ran (mid_ran x a b c)) h
end K37


namespace K37
open PySem Mx
open L2 (Key)
/-! ### what is known of texts, kinds, chains, comprehensions -/
section
variable {st : S} {Q : D → S → Prop} {es : Es}
theorem run_neS {a b : Str} (ha : PyData.strOk a = true) (hb : PyData.strOk b = true) : Rn (neO (.str a) (.str b)) st Q = Q (.bl (!decide (a = b))) st := by
  rw [run_neO, toPy_str ha, toPy_str hb]
  show Q (.bl (!PyData.eqv (.str a) (.str b))) st = _
  rw [PyData.eqv]
  rfl
theorem eqS_f {a b : Str} (h : (PyData.strOk a && PyData.strOk b && !decide (a = b)) = true) : Rn (eqO (.str a) (.str b)) st Q = Q (.bl false) st := by
  simp only [Bool.and_eq_true, Bool.not_eq_true'] at h
  rw [run_eqS h.1.1 h.1.2, h.2]
theorem eqS_t {a b : Str} (h : (PyData.strOk a && PyData.strOk b && decide (a = b)) = true) : Rn (eqO (.str a) (.str b)) st Q = Q (.bl true) st := by
  simp only [Bool.and_eq_true] at h
  rw [run_eqS h.1.1 h.1.2, h.2]
theorem neS_f {a b : Str} (h : (PyData.strOk a && PyData.strOk b && decide (a = b)) = true) : Rn (neO (.str a) (.str b)) st Q = Q (.bl false) st := by
  simp only [Bool.and_eq_true] at h
  rw [run_neS h.1.1 h.1.2, h.2]
  rfl
theorem neS_t {a b : Str} (h : (PyData.strOk a && PyData.strOk b && !decide (a = b)) = true) : Rn (neO (.str a) (.str b)) st Q = Q (.bl true) st := by
  simp only [Bool.and_eq_true, Bool.not_eq_true'] at h
  rw [run_neS h.1.1 h.1.2, h.2]
  rfl
theorem bqf {a b : Str} (h : (a == b) = false) : (a == b) = false := h
theorem bqt {a b : Str} (h : (a == b) = true) : (a == b) = true := h
@[simp] theorem run_inRot {x : D} {ys : List D} : Rn (inO x (.rot ys)) st Q = ((flatD x && ys.all flatD) = true ∧ Q (.bl (ys.any fun z => eq1 z x)) st) := by
  unfold inO
  rw [run_blM, run_bind]
  show Rn (guardM _ >>= _) st _ = _
  rw [run_bind, run_guard]
  rfl
@[simp] theorem run_ninRot {x : D} {ys : List D} : Rn (ninO x (.rot ys)) st Q = ((flatD x && ys.all flatD) = true ∧ Q (.bl (!(ys.any fun z => eq1 z x))) st) := by
  unfold ninO
  rw [run_blM, run_bind]
  show Rn (guardM _ >>= _) st _ = _
  rw [run_bind, run_guard]
  rfl
@[simp] theorem run_ch {g g' : D → D → M D} {a b c : Es → M D} : Rn (chD g g' a b c es) st Q = Rn (a es) st fun x s => Rn (b es) s fun y s2 => Rn (g x y) s2 fun z s3 => match z with
    | .bl true => Rn (c es) s3 fun w s4 => Rn (g' y w) s4 Q
    | .bl false => Q (.bl false) s3
    | _ => False := by
  unfold chD
  rw [run_bind]
  refine Rn_q (funext fun x => funext fun s => ?_)
  rw [run_bind]
  refine Rn_q (funext fun y => funext fun s2 => ?_)
  rw [run_bind]
  refine Rn_q (funext fun z => funext fun s3 => ?_)
  cases z with
  | bl q =>
    cases q with
    | true => exact run_bind
    | false => rfl
  | _ => rfl
theorem isI_int {i : Int} : Rn (on2 isi1 [.int i, .ty .int]) st Q = Q (.bl true) st := rfl
theorem isB_int {i : Int} : Rn (on2 isi1 [.int i, .ty .bool]) st Q = Q (.bl false) st := rfl
theorem isT_non : Rn (on2 isi1 [.non, .ty .tuple]) st Q = Q (.bl false) st := rfl
theorem isT_ref {n : Nat} {xs : List D} (h : st[n]? = some (.lst xs)) : Rn (on2 isi1 [.ref n, .ty .tuple]) st Q = Q (.bl false) st := run_some (by
  have e : tyD st (.ref n) = some .list := by
    show (match st[n]? with | some (.lst _) => some Ty.list | some (.dic _) => some .dict | some (.dit _) => some .dict | some (.dif _) => some .dict | none => none) = _
    rw [h]
  show isi1 (.ref n) (.ty .tuple) st = _
  unfold isi1
  rw [e]
  rfl)
theorem isS_ref {n : Nat} {xs : List D} (h : st[n]? = some (.lst xs)) : Rn (on2 isi1 [.ref n, .ty .str]) st Q = Q (.bl false) st := run_some (by
  have e : tyD st (.ref n) = some .list := by
    show (match st[n]? with | some (.lst _) => some Ty.list | some (.dic _) => some .dict | some (.dit _) => some .dict | some (.dif _) => some .dict | none => none) = _
    rw [h]
  show isi1 (.ref n) (.ty .str) st = _
  unfold isi1
  rw [e]
  rfl)
theorem isT_rot {ds : List D} : Rn (on2 isi1 [.rot ds, .ty .tuple]) st Q = Q (.bl true) st := rfl
theorem isT_str {x : Str} : Rn (on2 isi1 [.str x, .ty .tuple]) st Q = Q (.bl false) st := rfl
theorem isT_int {x : Int} : Rn (on2 isi1 [.int x, .ty .tuple]) st Q = Q (.bl false) st := rfl
theorem isS_non : Rn (on2 isi1 [.non, .ty .str]) st Q = Q (.bl false) st := rfl
theorem isS_tup {ds : List D} : Rn (on2 isi1 [.tup ds, .ty .str]) st Q = Q (.bl false) st := rfl
theorem isD_non : Rn (on2 isi1 [.non, .ty .dict]) st Q = Q (.bl false) st := rfl
theorem isD_str {x : Str} : Rn (on2 isi1 [.str x, .ty .dict]) st Q = Q (.bl false) st := rfl
theorem isD_lst {n : Nat} {xs : List D} (h : st[n]? = some (.lst xs)) : Rn (on2 isi1 [.ref n, .ty .dict]) st Q = Q (.bl false) st := run_some (by
  have e : tyD st (.ref n) = some .list := by
    show (match st[n]? with | some (.lst _) => some Ty.list | some (.dic _) => some .dict | some (.dit _) => some .dict | some (.dif _) => some .dict | none => none) = _
    rw [h]
  show isi1 (.ref n) (.ty .dict) st = _
  unfold isi1
  rw [e]
  rfl)
theorem isD_dic {n : Nat} {kvs : List (Key × D)} (h : st[n]? = some (.dic kvs)) : Rn (on2 isi1 [.ref n, .ty .dict]) st Q = Q (.bl true) st := run_some (by
  have e : tyD st (.ref n) = some .dict := by
    show (match st[n]? with | some (.lst _) => some Ty.list | some (.dic _) => some .dict | some (.dit _) => some .dict | some (.dif _) => some .dict | none => none) = _
    rw [h]
  show isi1 (.ref n) (.ty .dict) st = _
  unfold isi1
  rw [e]
  rfl)
theorem run_lenC {n : Nat} {kvs : List (Key × D)} (h : st[n]? = some (.dic kvs)) : Rn (on1 lenD [.ref n]) st Q = Q (.int kvs.length) st := run_some (by
  show (match st[n]? with | some (.lst xs) => some (D.int xs.length, st) | some (.dic kvs) => some (.int kvs.length, st) | some (.dif kvs) => some (.int kvs.length, st) | _ => none) = _
  rw [h])
@[simp] theorem run_lenRot {ds : List D} : Rn (on1 lenD [.rot ds]) st Q = Q (.int ds.length) st := rfl
theorem run_lenS {z : Str} (h : decide (z.length ≤ sizeLine) = true) : Rn (on1 lenD [.str z]) st Q = Q (.int z.length) st := by
  show Rn (guardM _ >>= _) st _ = _
  rw [run_bind, run_guard]
  simp only [h, true_and]
  rfl
end
theorem lcmap {src : Src} {g : D → Es → M Es} {t : Es → M Bool} {e : Es → M D} {es0 : Es} {ds : List D} (F : D → D) {st : S} {QL : List D → S → Prop} (hn : ds.length ≤ 1000) (hs : ∀ ex i, src.at (st ++ ex) i = lapOf ds[i]?)
    (body : ∀ d ∈ ds, ∀ ex, Rn (g d es0) (st ++ ex) fun e1 s2 => Rn (t e1) s2 fun q s3 => q = true ∧ Rn (e e1) s3 fun y s4 => y = F d ∧ ∃ ex2, s4 = st ++ ex ++ ex2) (fin : ∀ ex, QL (ds.map F) (st ++ ex)) : Rn (lapC src g t e es0 L0 0 []) st QL := by
  refine run_lapC (ds := ds) (fun i acc s => acc = (ds.take i).map F ∧ ∃ ex, s = st ++ ex) ?_ ?_ ?_ _ _ _ _ (lt0 hn) (Nat.zero_le _) ⟨by simp, [], by simp⟩
  · rintro i acc s ⟨_, ex, rfl⟩
    exact hs ex i
  · rintro i d acc s hd ⟨rfl, ex, rfl⟩
    refine (body d (List.mem_of_getElem? hd) ex).mono fun e1 s2 h => h.mono fun q s3 ⟨hq, h2⟩ => ?_
    subst hq
    rw [if_pos rfl]
    refine h2.mono fun y s4 ⟨hy, ex2, e2⟩ => ?_
    subst hy e2
    refine ⟨?_, ?_, ex ++ ex2, by rw [List.append_assoc]⟩
    · rw [List.length_map, List.length_take]; exact sz3 (by omega)
    · rw [List.take_add_one, hd]; simp
  · rintro acc s ⟨rfl, ex, rfl⟩
    rw [List.take_length]
    exact fin ex
theorem all_new {st : S} {Q : D → S → Prop} {ds : List D} {f : D → Bool} : Rn (on1 allD [.ref st.length]) (st ++ [.lst (ds.map fun d => .bl (f d))]) Q = Q (.bl (ds.all f)) (st ++ [.lst (ds.map fun d => .bl (f d))]) := by
  have h : (st ++ [O.lst (ds.map fun d => D.bl (f d))])[st.length]? = some (.lst ((ds.map f).map .bl)) := by simp [Function.comp_def]
  rw [run_allR h, List.all_map]
  rfl
theorem run_anyR {st : S} {Q : D → S → Prop} {n : Nat} {l : List Bool} (h : st[n]? = some (.lst (l.map .bl))) : Rn (on1 anyD [.ref n]) st Q = Q (.bl (l.any id)) st := by
  show Rn (lstAt n >>= _) st Q = _
  rw [run_bind, run_some (lstAt_of h), bools_map]
  rfl
theorem any_new {st : S} {Q : D → S → Prop} {ds : List D} {f : D → Bool} : Rn (on1 anyD [.ref st.length]) (st ++ [.lst (ds.map fun d => .bl (f d))]) Q = Q (.bl (ds.any f)) (st ++ [.lst (ds.map fun d => .bl (f d))]) := by
  have h : (st ++ [O.lst (ds.map fun d => D.bl (f d))])[st.length]? = some (.lst ((ds.map f).map .bl)) := by simp [Function.comp_def]
  rw [run_anyR h, List.any_map]
  rfl
/-! ### decimals and points -/
section
variable {st : S} {Q : D → S → Prop}
theorem is_whole_ok (k : Nat) (i : Int) : Rn (tb (k + 1) .Fis_whole [.int i]) st Q = Q (.bl true) st := by
  rw [t_b_is_whole]
  simp [b_is_whole, isI_int, isB_int]
theorem is_decimal_ok (k : Nat) (a t : Int) (h : a.fmod 10 ≠ 0 ∨ (a = 0 ∧ t = 0)) : Rn (tb (k + 2) .Fis_decimal [.tup [.int a, .int t]]) st Q = Q (.bl true) st := by
  rw [t_b_is_decimal]
  simp [b_is_decimal, isT_tup, is_whole_ok, sz]
  rcases h with h | ⟨rfl, rfl⟩
  · simp [h]
  · have e : Rn (eqO (.tup [.int 0, .int 0]) (.tup [.int 0, .int 0])) st Q = Q (.bl true) st := by
      rw [run_eqO]
      show Q (.bl (PyData.eqv (.tuple [.int 0, .int 0]) (.tuple [.int 0, .int 0]))) st = _
      rw [show PyData.eqv (.tuple [.int 0, .int 0]) (.tuple [.int 0, .int 0]) = true by decide +kernel]
    simp [e]
theorem is_point_ok (k : Nat) (i : Int) (h : 0 ≤ i ∧ i ≤ 1114111) : Rn (tb (k + 1) .Fis_point [.int i]) st Q = Q (.bl true) st := by
  rw [t_b_is_point]
  simp [b_is_point, isI_int, isB_int, h]
theorem is_high_ok (k : Nat) (i : Int) (h : i < 55296) : Rn (tb (k + 1) .Fis_high [.int i]) st Q = Q (.bl false) st := by
  rw [t_b_is_high]
  have : decide ((55296 : Int) ≤ i) = false := by simp; omega
  simp [b_is_high, this]
end
/-- points that are no surrogates -/
def Pts (l : List Int) : Prop := l.length ≤ 100 ∧ ∀ i ∈ l, 0 ≤ i ∧ i < 55296
theorem zip_at {xs ys : List D} {st : S} {i : Nat} : (Src.zip xs ys).at st i = lapOf ((xs.zip ys).map fun p => D.tup [p.1, p.2])[i]? := by
  show zipAt xs[i]? ys[i]? = _
  rw [List.getElem?_map, List.zip_eq_zipWith, List.getElem?_zipWith]
  cases xs[i]? <;> cases ys[i]? <;> rfl
theorem cut1 {xs : List D} : cutD xs (some 1) none = xs.drop 1 := by
  cases xs with
  | nil => rfl
  | cons x r =>
    unfold cutD HT.sIx
    simp
theorem run_sl1g {xs : List D} {st : S} {Q : D → S → Prop} : Rn (slD (.tup xs) (some 1) none) st Q = Q (.tup (xs.drop 1)) st := by
  show Q (.tup (cutD xs (some 1) none)) st = _
  rw [cut1]
theorem run_zip {a b : Es → M D} {es : Es} {st : S} {QR : Src → S → Prop} : Rn (zipS a b es) st QR = Rn (a es) st fun x s => Rn (b es) s fun y s2 => match x, y with
    | .tup xs, .tup ys => QR (.zip xs ys) s2
    | _, _ => False := by
  unfold zipS
  rw [run_bind]
  refine Rn_q (funext fun x => funext fun s => ?_)
  rw [run_bind]
  refine Rn_q (funext fun y => funext fun s2 => ?_)
  cases x <;> cases y <;> rfl
theorem is_points_ok (k : Nat) (l : List Int) (h : Pts l) : Gv (tb (k + 2) .Fis_points [.tup (l.map .int)]) (.bl true) := by
  refine gv_of fun st => ?_
  rw [t_b_is_points]
  simp [b_is_points, isT_tup, -run_lc]
  rw [run_lc]
  simp [-run_lc]
  refine lcmap (fun _ => .bl true) (by simpa using (by have := h.1; omega : l.length ≤ 1000)) (fun _ _ => rfl) ?_ fun ex => ?_
  · rintro d hd ex
    obtain ⟨i, hi, rfl⟩ := List.mem_map.mp hd
    have := h.2 i hi
    simp [wipeE]
    rw [is_point_ok k i (by omega)]
    exact ⟨rfl, [], by simp⟩
  · rw [all_new (f := fun _ => true)]
    simp [run_zip, run_sl1g, -run_lc]
    rw [run_lc]
    simp [run_zip, run_sl1g, -run_lc]
    refine lcmap (fun _ => .bl false) ?_ (fun _ _ => zip_at) ?_ fun ex2 => ?_
    · have := h.1
      simp
      omega
    · rintro d hd ex3
      obtain ⟨⟨x, y⟩, hp, rfl⟩ := List.mem_map.mp hd
      obtain ⟨i, hi, rfl⟩ := List.mem_map.mp (List.of_mem_zip hp).1
      have := h.2 i hi
      simp [wipeE]
      rw [is_high_ok k i (by omega)]
      simp
    · rw [any_new (f := fun _ => false)]
      simp
end K37


namespace K37
open PySem Mx
open L2 (Key)
/-! pairs of known texts; a program first, what follows it later -/
section
variable {α : Type} {a b c d : α}
theorem len0 : ([] : List α).length = 0 := rfl
theorem len1 : [a].length = 1 := rfl
theorem len2 : [a, b].length = 2 := rfl
theorem len3 : [a, b, c].length = 3 := rfl
theorem len4 : [a, b, c, d].length = 4 := rfl
end
@[simp] theorem qp_1 {st : S} {Q : D → S → Prop} : Rn (eqO (.str "null") (.str "null")) st Q = Q (.bl true) st := eqS_t (by decide +kernel)
@[simp] theorem np_1 {st : S} {Q : D → S → Prop} : Rn (neO (.str "null") (.str "null")) st Q = Q (.bl false) st := neS_f (by decide +kernel)
@[simp] theorem bp_2 : (("null" : Str) == "true") = false := by decide +kernel
@[simp] theorem qp_2 {st : S} {Q : D → S → Prop} : Rn (eqO (.str "null") (.str "true")) st Q = Q (.bl false) st := eqS_f (by decide +kernel)
@[simp] theorem np_2 {st : S} {Q : D → S → Prop} : Rn (neO (.str "null") (.str "true")) st Q = Q (.bl true) st := neS_t (by decide +kernel)
@[simp] theorem bp_3 : (("null" : Str) == "false") = false := by decide +kernel
@[simp] theorem qp_3 {st : S} {Q : D → S → Prop} : Rn (eqO (.str "null") (.str "false")) st Q = Q (.bl false) st := eqS_f (by decide +kernel)
@[simp] theorem np_3 {st : S} {Q : D → S → Prop} : Rn (neO (.str "null") (.str "false")) st Q = Q (.bl true) st := neS_t (by decide +kernel)
@[simp] theorem bp_4 : (("null" : Str) == "number") = false := by decide +kernel
@[simp] theorem qp_4 {st : S} {Q : D → S → Prop} : Rn (eqO (.str "null") (.str "number")) st Q = Q (.bl false) st := eqS_f (by decide +kernel)
@[simp] theorem np_4 {st : S} {Q : D → S → Prop} : Rn (neO (.str "null") (.str "number")) st Q = Q (.bl true) st := neS_t (by decide +kernel)
@[simp] theorem bp_5 : (("null" : Str) == "string") = false := by decide +kernel
@[simp] theorem qp_5 {st : S} {Q : D → S → Prop} : Rn (eqO (.str "null") (.str "string")) st Q = Q (.bl false) st := eqS_f (by decide +kernel)
@[simp] theorem np_5 {st : S} {Q : D → S → Prop} : Rn (neO (.str "null") (.str "string")) st Q = Q (.bl true) st := neS_t (by decide +kernel)
@[simp] theorem bp_6 : (("null" : Str) == "array") = false := by decide +kernel
@[simp] theorem qp_6 {st : S} {Q : D → S → Prop} : Rn (eqO (.str "null") (.str "array")) st Q = Q (.bl false) st := eqS_f (by decide +kernel)
@[simp] theorem np_6 {st : S} {Q : D → S → Prop} : Rn (neO (.str "null") (.str "array")) st Q = Q (.bl true) st := neS_t (by decide +kernel)
@[simp] theorem bp_7 : (("null" : Str) == "object") = false := by decide +kernel
@[simp] theorem qp_7 {st : S} {Q : D → S → Prop} : Rn (eqO (.str "null") (.str "object")) st Q = Q (.bl false) st := eqS_f (by decide +kernel)
@[simp] theorem np_7 {st : S} {Q : D → S → Prop} : Rn (neO (.str "null") (.str "object")) st Q = Q (.bl true) st := neS_t (by decide +kernel)
@[simp] theorem bp_8 : (("null" : Str) == "nulls") = false := by decide +kernel
@[simp] theorem qp_8 {st : S} {Q : D → S → Prop} : Rn (eqO (.str "null") (.str "nulls")) st Q = Q (.bl false) st := eqS_f (by decide +kernel)
@[simp] theorem np_8 {st : S} {Q : D → S → Prop} : Rn (neO (.str "null") (.str "nulls")) st Q = Q (.bl true) st := neS_t (by decide +kernel)
@[simp] theorem bp_9 : (("true" : Str) == "null") = false := by decide +kernel
@[simp] theorem qp_9 {st : S} {Q : D → S → Prop} : Rn (eqO (.str "true") (.str "null")) st Q = Q (.bl false) st := eqS_f (by decide +kernel)
@[simp] theorem np_9 {st : S} {Q : D → S → Prop} : Rn (neO (.str "true") (.str "null")) st Q = Q (.bl true) st := neS_t (by decide +kernel)
@[simp] theorem qp_10 {st : S} {Q : D → S → Prop} : Rn (eqO (.str "true") (.str "true")) st Q = Q (.bl true) st := eqS_t (by decide +kernel)
@[simp] theorem np_10 {st : S} {Q : D → S → Prop} : Rn (neO (.str "true") (.str "true")) st Q = Q (.bl false) st := neS_f (by decide +kernel)
@[simp] theorem bp_11 : (("true" : Str) == "false") = false := by decide +kernel
@[simp] theorem qp_11 {st : S} {Q : D → S → Prop} : Rn (eqO (.str "true") (.str "false")) st Q = Q (.bl false) st := eqS_f (by decide +kernel)
@[simp] theorem np_11 {st : S} {Q : D → S → Prop} : Rn (neO (.str "true") (.str "false")) st Q = Q (.bl true) st := neS_t (by decide +kernel)
@[simp] theorem bp_12 : (("true" : Str) == "number") = false := by decide +kernel
@[simp] theorem qp_12 {st : S} {Q : D → S → Prop} : Rn (eqO (.str "true") (.str "number")) st Q = Q (.bl false) st := eqS_f (by decide +kernel)
@[simp] theorem np_12 {st : S} {Q : D → S → Prop} : Rn (neO (.str "true") (.str "number")) st Q = Q (.bl true) st := neS_t (by decide +kernel)
@[simp] theorem bp_13 : (("true" : Str) == "string") = false := by decide +kernel
@[simp] theorem qp_13 {st : S} {Q : D → S → Prop} : Rn (eqO (.str "true") (.str "string")) st Q = Q (.bl false) st := eqS_f (by decide +kernel)
@[simp] theorem np_13 {st : S} {Q : D → S → Prop} : Rn (neO (.str "true") (.str "string")) st Q = Q (.bl true) st := neS_t (by decide +kernel)
@[simp] theorem bp_14 : (("true" : Str) == "array") = false := by decide +kernel
@[simp] theorem qp_14 {st : S} {Q : D → S → Prop} : Rn (eqO (.str "true") (.str "array")) st Q = Q (.bl false) st := eqS_f (by decide +kernel)
@[simp] theorem np_14 {st : S} {Q : D → S → Prop} : Rn (neO (.str "true") (.str "array")) st Q = Q (.bl true) st := neS_t (by decide +kernel)
@[simp] theorem bp_15 : (("true" : Str) == "object") = false := by decide +kernel
@[simp] theorem qp_15 {st : S} {Q : D → S → Prop} : Rn (eqO (.str "true") (.str "object")) st Q = Q (.bl false) st := eqS_f (by decide +kernel)
@[simp] theorem np_15 {st : S} {Q : D → S → Prop} : Rn (neO (.str "true") (.str "object")) st Q = Q (.bl true) st := neS_t (by decide +kernel)
@[simp] theorem bp_16 : (("true" : Str) == "nulls") = false := by decide +kernel
@[simp] theorem qp_16 {st : S} {Q : D → S → Prop} : Rn (eqO (.str "true") (.str "nulls")) st Q = Q (.bl false) st := eqS_f (by decide +kernel)
@[simp] theorem np_16 {st : S} {Q : D → S → Prop} : Rn (neO (.str "true") (.str "nulls")) st Q = Q (.bl true) st := neS_t (by decide +kernel)
@[simp] theorem bp_17 : (("false" : Str) == "null") = false := by decide +kernel
@[simp] theorem qp_17 {st : S} {Q : D → S → Prop} : Rn (eqO (.str "false") (.str "null")) st Q = Q (.bl false) st := eqS_f (by decide +kernel)
@[simp] theorem np_17 {st : S} {Q : D → S → Prop} : Rn (neO (.str "false") (.str "null")) st Q = Q (.bl true) st := neS_t (by decide +kernel)
@[simp] theorem bp_18 : (("false" : Str) == "true") = false := by decide +kernel
@[simp] theorem qp_18 {st : S} {Q : D → S → Prop} : Rn (eqO (.str "false") (.str "true")) st Q = Q (.bl false) st := eqS_f (by decide +kernel)
@[simp] theorem np_18 {st : S} {Q : D → S → Prop} : Rn (neO (.str "false") (.str "true")) st Q = Q (.bl true) st := neS_t (by decide +kernel)
@[simp] theorem qp_19 {st : S} {Q : D → S → Prop} : Rn (eqO (.str "false") (.str "false")) st Q = Q (.bl true) st := eqS_t (by decide +kernel)
@[simp] theorem np_19 {st : S} {Q : D → S → Prop} : Rn (neO (.str "false") (.str "false")) st Q = Q (.bl false) st := neS_f (by decide +kernel)
@[simp] theorem bp_20 : (("false" : Str) == "number") = false := by decide +kernel
@[simp] theorem qp_20 {st : S} {Q : D → S → Prop} : Rn (eqO (.str "false") (.str "number")) st Q = Q (.bl false) st := eqS_f (by decide +kernel)
@[simp] theorem np_20 {st : S} {Q : D → S → Prop} : Rn (neO (.str "false") (.str "number")) st Q = Q (.bl true) st := neS_t (by decide +kernel)
@[simp] theorem bp_21 : (("false" : Str) == "string") = false := by decide +kernel
@[simp] theorem qp_21 {st : S} {Q : D → S → Prop} : Rn (eqO (.str "false") (.str "string")) st Q = Q (.bl false) st := eqS_f (by decide +kernel)
@[simp] theorem np_21 {st : S} {Q : D → S → Prop} : Rn (neO (.str "false") (.str "string")) st Q = Q (.bl true) st := neS_t (by decide +kernel)
@[simp] theorem bp_22 : (("false" : Str) == "array") = false := by decide +kernel
@[simp] theorem qp_22 {st : S} {Q : D → S → Prop} : Rn (eqO (.str "false") (.str "array")) st Q = Q (.bl false) st := eqS_f (by decide +kernel)
@[simp] theorem np_22 {st : S} {Q : D → S → Prop} : Rn (neO (.str "false") (.str "array")) st Q = Q (.bl true) st := neS_t (by decide +kernel)
@[simp] theorem bp_23 : (("false" : Str) == "object") = false := by decide +kernel
@[simp] theorem qp_23 {st : S} {Q : D → S → Prop} : Rn (eqO (.str "false") (.str "object")) st Q = Q (.bl false) st := eqS_f (by decide +kernel)
@[simp] theorem np_23 {st : S} {Q : D → S → Prop} : Rn (neO (.str "false") (.str "object")) st Q = Q (.bl true) st := neS_t (by decide +kernel)
@[simp] theorem bp_24 : (("false" : Str) == "nulls") = false := by decide +kernel
@[simp] theorem qp_24 {st : S} {Q : D → S → Prop} : Rn (eqO (.str "false") (.str "nulls")) st Q = Q (.bl false) st := eqS_f (by decide +kernel)
@[simp] theorem np_24 {st : S} {Q : D → S → Prop} : Rn (neO (.str "false") (.str "nulls")) st Q = Q (.bl true) st := neS_t (by decide +kernel)
@[simp] theorem bp_25 : (("number" : Str) == "null") = false := by decide +kernel
@[simp] theorem qp_25 {st : S} {Q : D → S → Prop} : Rn (eqO (.str "number") (.str "null")) st Q = Q (.bl false) st := eqS_f (by decide +kernel)
@[simp] theorem np_25 {st : S} {Q : D → S → Prop} : Rn (neO (.str "number") (.str "null")) st Q = Q (.bl true) st := neS_t (by decide +kernel)
@[simp] theorem bp_26 : (("number" : Str) == "true") = false := by decide +kernel
@[simp] theorem qp_26 {st : S} {Q : D → S → Prop} : Rn (eqO (.str "number") (.str "true")) st Q = Q (.bl false) st := eqS_f (by decide +kernel)
@[simp] theorem np_26 {st : S} {Q : D → S → Prop} : Rn (neO (.str "number") (.str "true")) st Q = Q (.bl true) st := neS_t (by decide +kernel)
@[simp] theorem bp_27 : (("number" : Str) == "false") = false := by decide +kernel
@[simp] theorem qp_27 {st : S} {Q : D → S → Prop} : Rn (eqO (.str "number") (.str "false")) st Q = Q (.bl false) st := eqS_f (by decide +kernel)
@[simp] theorem np_27 {st : S} {Q : D → S → Prop} : Rn (neO (.str "number") (.str "false")) st Q = Q (.bl true) st := neS_t (by decide +kernel)
@[simp] theorem qp_28 {st : S} {Q : D → S → Prop} : Rn (eqO (.str "number") (.str "number")) st Q = Q (.bl true) st := eqS_t (by decide +kernel)
@[simp] theorem np_28 {st : S} {Q : D → S → Prop} : Rn (neO (.str "number") (.str "number")) st Q = Q (.bl false) st := neS_f (by decide +kernel)
@[simp] theorem bp_29 : (("number" : Str) == "string") = false := by decide +kernel
@[simp] theorem qp_29 {st : S} {Q : D → S → Prop} : Rn (eqO (.str "number") (.str "string")) st Q = Q (.bl false) st := eqS_f (by decide +kernel)
@[simp] theorem np_29 {st : S} {Q : D → S → Prop} : Rn (neO (.str "number") (.str "string")) st Q = Q (.bl true) st := neS_t (by decide +kernel)
@[simp] theorem bp_30 : (("number" : Str) == "array") = false := by decide +kernel
@[simp] theorem qp_30 {st : S} {Q : D → S → Prop} : Rn (eqO (.str "number") (.str "array")) st Q = Q (.bl false) st := eqS_f (by decide +kernel)
@[simp] theorem np_30 {st : S} {Q : D → S → Prop} : Rn (neO (.str "number") (.str "array")) st Q = Q (.bl true) st := neS_t (by decide +kernel)
@[simp] theorem bp_31 : (("number" : Str) == "object") = false := by decide +kernel
@[simp] theorem qp_31 {st : S} {Q : D → S → Prop} : Rn (eqO (.str "number") (.str "object")) st Q = Q (.bl false) st := eqS_f (by decide +kernel)
@[simp] theorem np_31 {st : S} {Q : D → S → Prop} : Rn (neO (.str "number") (.str "object")) st Q = Q (.bl true) st := neS_t (by decide +kernel)
@[simp] theorem bp_32 : (("number" : Str) == "nulls") = false := by decide +kernel
@[simp] theorem qp_32 {st : S} {Q : D → S → Prop} : Rn (eqO (.str "number") (.str "nulls")) st Q = Q (.bl false) st := eqS_f (by decide +kernel)
@[simp] theorem np_32 {st : S} {Q : D → S → Prop} : Rn (neO (.str "number") (.str "nulls")) st Q = Q (.bl true) st := neS_t (by decide +kernel)
@[simp] theorem bp_33 : (("string" : Str) == "null") = false := by decide +kernel
@[simp] theorem qp_33 {st : S} {Q : D → S → Prop} : Rn (eqO (.str "string") (.str "null")) st Q = Q (.bl false) st := eqS_f (by decide +kernel)
@[simp] theorem np_33 {st : S} {Q : D → S → Prop} : Rn (neO (.str "string") (.str "null")) st Q = Q (.bl true) st := neS_t (by decide +kernel)
@[simp] theorem bp_34 : (("string" : Str) == "true") = false := by decide +kernel
@[simp] theorem qp_34 {st : S} {Q : D → S → Prop} : Rn (eqO (.str "string") (.str "true")) st Q = Q (.bl false) st := eqS_f (by decide +kernel)
@[simp] theorem np_34 {st : S} {Q : D → S → Prop} : Rn (neO (.str "string") (.str "true")) st Q = Q (.bl true) st := neS_t (by decide +kernel)
@[simp] theorem bp_35 : (("string" : Str) == "false") = false := by decide +kernel
@[simp] theorem qp_35 {st : S} {Q : D → S → Prop} : Rn (eqO (.str "string") (.str "false")) st Q = Q (.bl false) st := eqS_f (by decide +kernel)
@[simp] theorem np_35 {st : S} {Q : D → S → Prop} : Rn (neO (.str "string") (.str "false")) st Q = Q (.bl true) st := neS_t (by decide +kernel)
@[simp] theorem bp_36 : (("string" : Str) == "number") = false := by decide +kernel
@[simp] theorem qp_36 {st : S} {Q : D → S → Prop} : Rn (eqO (.str "string") (.str "number")) st Q = Q (.bl false) st := eqS_f (by decide +kernel)
@[simp] theorem np_36 {st : S} {Q : D → S → Prop} : Rn (neO (.str "string") (.str "number")) st Q = Q (.bl true) st := neS_t (by decide +kernel)
@[simp] theorem qp_37 {st : S} {Q : D → S → Prop} : Rn (eqO (.str "string") (.str "string")) st Q = Q (.bl true) st := eqS_t (by decide +kernel)
@[simp] theorem np_37 {st : S} {Q : D → S → Prop} : Rn (neO (.str "string") (.str "string")) st Q = Q (.bl false) st := neS_f (by decide +kernel)
@[simp] theorem bp_38 : (("string" : Str) == "array") = false := by decide +kernel
@[simp] theorem qp_38 {st : S} {Q : D → S → Prop} : Rn (eqO (.str "string") (.str "array")) st Q = Q (.bl false) st := eqS_f (by decide +kernel)
@[simp] theorem np_38 {st : S} {Q : D → S → Prop} : Rn (neO (.str "string") (.str "array")) st Q = Q (.bl true) st := neS_t (by decide +kernel)
@[simp] theorem bp_39 : (("string" : Str) == "object") = false := by decide +kernel
@[simp] theorem qp_39 {st : S} {Q : D → S → Prop} : Rn (eqO (.str "string") (.str "object")) st Q = Q (.bl false) st := eqS_f (by decide +kernel)
@[simp] theorem np_39 {st : S} {Q : D → S → Prop} : Rn (neO (.str "string") (.str "object")) st Q = Q (.bl true) st := neS_t (by decide +kernel)
@[simp] theorem bp_40 : (("string" : Str) == "nulls") = false := by decide +kernel
@[simp] theorem qp_40 {st : S} {Q : D → S → Prop} : Rn (eqO (.str "string") (.str "nulls")) st Q = Q (.bl false) st := eqS_f (by decide +kernel)
@[simp] theorem np_40 {st : S} {Q : D → S → Prop} : Rn (neO (.str "string") (.str "nulls")) st Q = Q (.bl true) st := neS_t (by decide +kernel)
@[simp] theorem bp_41 : (("array" : Str) == "null") = false := by decide +kernel
@[simp] theorem qp_41 {st : S} {Q : D → S → Prop} : Rn (eqO (.str "array") (.str "null")) st Q = Q (.bl false) st := eqS_f (by decide +kernel)
@[simp] theorem np_41 {st : S} {Q : D → S → Prop} : Rn (neO (.str "array") (.str "null")) st Q = Q (.bl true) st := neS_t (by decide +kernel)
@[simp] theorem bp_42 : (("array" : Str) == "true") = false := by decide +kernel
@[simp] theorem qp_42 {st : S} {Q : D → S → Prop} : Rn (eqO (.str "array") (.str "true")) st Q = Q (.bl false) st := eqS_f (by decide +kernel)
@[simp] theorem np_42 {st : S} {Q : D → S → Prop} : Rn (neO (.str "array") (.str "true")) st Q = Q (.bl true) st := neS_t (by decide +kernel)
@[simp] theorem bp_43 : (("array" : Str) == "false") = false := by decide +kernel
@[simp] theorem qp_43 {st : S} {Q : D → S → Prop} : Rn (eqO (.str "array") (.str "false")) st Q = Q (.bl false) st := eqS_f (by decide +kernel)
@[simp] theorem np_43 {st : S} {Q : D → S → Prop} : Rn (neO (.str "array") (.str "false")) st Q = Q (.bl true) st := neS_t (by decide +kernel)
@[simp] theorem bp_44 : (("array" : Str) == "number") = false := by decide +kernel
@[simp] theorem qp_44 {st : S} {Q : D → S → Prop} : Rn (eqO (.str "array") (.str "number")) st Q = Q (.bl false) st := eqS_f (by decide +kernel)
@[simp] theorem np_44 {st : S} {Q : D → S → Prop} : Rn (neO (.str "array") (.str "number")) st Q = Q (.bl true) st := neS_t (by decide +kernel)
@[simp] theorem bp_45 : (("array" : Str) == "string") = false := by decide +kernel
@[simp] theorem qp_45 {st : S} {Q : D → S → Prop} : Rn (eqO (.str "array") (.str "string")) st Q = Q (.bl false) st := eqS_f (by decide +kernel)
@[simp] theorem np_45 {st : S} {Q : D → S → Prop} : Rn (neO (.str "array") (.str "string")) st Q = Q (.bl true) st := neS_t (by decide +kernel)
@[simp] theorem qp_46 {st : S} {Q : D → S → Prop} : Rn (eqO (.str "array") (.str "array")) st Q = Q (.bl true) st := eqS_t (by decide +kernel)
@[simp] theorem np_46 {st : S} {Q : D → S → Prop} : Rn (neO (.str "array") (.str "array")) st Q = Q (.bl false) st := neS_f (by decide +kernel)
@[simp] theorem bp_47 : (("array" : Str) == "object") = false := by decide +kernel
@[simp] theorem qp_47 {st : S} {Q : D → S → Prop} : Rn (eqO (.str "array") (.str "object")) st Q = Q (.bl false) st := eqS_f (by decide +kernel)
@[simp] theorem np_47 {st : S} {Q : D → S → Prop} : Rn (neO (.str "array") (.str "object")) st Q = Q (.bl true) st := neS_t (by decide +kernel)
@[simp] theorem bp_48 : (("array" : Str) == "nulls") = false := by decide +kernel
@[simp] theorem qp_48 {st : S} {Q : D → S → Prop} : Rn (eqO (.str "array") (.str "nulls")) st Q = Q (.bl false) st := eqS_f (by decide +kernel)
@[simp] theorem np_48 {st : S} {Q : D → S → Prop} : Rn (neO (.str "array") (.str "nulls")) st Q = Q (.bl true) st := neS_t (by decide +kernel)
@[simp] theorem bp_49 : (("object" : Str) == "null") = false := by decide +kernel
@[simp] theorem qp_49 {st : S} {Q : D → S → Prop} : Rn (eqO (.str "object") (.str "null")) st Q = Q (.bl false) st := eqS_f (by decide +kernel)
@[simp] theorem np_49 {st : S} {Q : D → S → Prop} : Rn (neO (.str "object") (.str "null")) st Q = Q (.bl true) st := neS_t (by decide +kernel)
@[simp] theorem bp_50 : (("object" : Str) == "true") = false := by decide +kernel
@[simp] theorem qp_50 {st : S} {Q : D → S → Prop} : Rn (eqO (.str "object") (.str "true")) st Q = Q (.bl false) st := eqS_f (by decide +kernel)
@[simp] theorem np_50 {st : S} {Q : D → S → Prop} : Rn (neO (.str "object") (.str "true")) st Q = Q (.bl true) st := neS_t (by decide +kernel)
@[simp] theorem bp_51 : (("object" : Str) == "false") = false := by decide +kernel
@[simp] theorem qp_51 {st : S} {Q : D → S → Prop} : Rn (eqO (.str "object") (.str "false")) st Q = Q (.bl false) st := eqS_f (by decide +kernel)
@[simp] theorem np_51 {st : S} {Q : D → S → Prop} : Rn (neO (.str "object") (.str "false")) st Q = Q (.bl true) st := neS_t (by decide +kernel)
@[simp] theorem bp_52 : (("object" : Str) == "number") = false := by decide +kernel
@[simp] theorem qp_52 {st : S} {Q : D → S → Prop} : Rn (eqO (.str "object") (.str "number")) st Q = Q (.bl false) st := eqS_f (by decide +kernel)
@[simp] theorem np_52 {st : S} {Q : D → S → Prop} : Rn (neO (.str "object") (.str "number")) st Q = Q (.bl true) st := neS_t (by decide +kernel)
@[simp] theorem bp_53 : (("object" : Str) == "string") = false := by decide +kernel
@[simp] theorem qp_53 {st : S} {Q : D → S → Prop} : Rn (eqO (.str "object") (.str "string")) st Q = Q (.bl false) st := eqS_f (by decide +kernel)
@[simp] theorem np_53 {st : S} {Q : D → S → Prop} : Rn (neO (.str "object") (.str "string")) st Q = Q (.bl true) st := neS_t (by decide +kernel)
@[simp] theorem bp_54 : (("object" : Str) == "array") = false := by decide +kernel
@[simp] theorem qp_54 {st : S} {Q : D → S → Prop} : Rn (eqO (.str "object") (.str "array")) st Q = Q (.bl false) st := eqS_f (by decide +kernel)
@[simp] theorem np_54 {st : S} {Q : D → S → Prop} : Rn (neO (.str "object") (.str "array")) st Q = Q (.bl true) st := neS_t (by decide +kernel)
@[simp] theorem qp_55 {st : S} {Q : D → S → Prop} : Rn (eqO (.str "object") (.str "object")) st Q = Q (.bl true) st := eqS_t (by decide +kernel)
@[simp] theorem np_55 {st : S} {Q : D → S → Prop} : Rn (neO (.str "object") (.str "object")) st Q = Q (.bl false) st := neS_f (by decide +kernel)
@[simp] theorem bp_56 : (("object" : Str) == "nulls") = false := by decide +kernel
@[simp] theorem qp_56 {st : S} {Q : D → S → Prop} : Rn (eqO (.str "object") (.str "nulls")) st Q = Q (.bl false) st := eqS_f (by decide +kernel)
@[simp] theorem np_56 {st : S} {Q : D → S → Prop} : Rn (neO (.str "object") (.str "nulls")) st Q = Q (.bl true) st := neS_t (by decide +kernel)
@[simp] theorem bp_57 : (("nulls" : Str) == "null") = false := by decide +kernel
@[simp] theorem qp_57 {st : S} {Q : D → S → Prop} : Rn (eqO (.str "nulls") (.str "null")) st Q = Q (.bl false) st := eqS_f (by decide +kernel)
@[simp] theorem np_57 {st : S} {Q : D → S → Prop} : Rn (neO (.str "nulls") (.str "null")) st Q = Q (.bl true) st := neS_t (by decide +kernel)
@[simp] theorem bp_58 : (("nulls" : Str) == "true") = false := by decide +kernel
@[simp] theorem qp_58 {st : S} {Q : D → S → Prop} : Rn (eqO (.str "nulls") (.str "true")) st Q = Q (.bl false) st := eqS_f (by decide +kernel)
@[simp] theorem np_58 {st : S} {Q : D → S → Prop} : Rn (neO (.str "nulls") (.str "true")) st Q = Q (.bl true) st := neS_t (by decide +kernel)
@[simp] theorem bp_59 : (("nulls" : Str) == "false") = false := by decide +kernel
@[simp] theorem qp_59 {st : S} {Q : D → S → Prop} : Rn (eqO (.str "nulls") (.str "false")) st Q = Q (.bl false) st := eqS_f (by decide +kernel)
@[simp] theorem np_59 {st : S} {Q : D → S → Prop} : Rn (neO (.str "nulls") (.str "false")) st Q = Q (.bl true) st := neS_t (by decide +kernel)
@[simp] theorem bp_60 : (("nulls" : Str) == "number") = false := by decide +kernel
@[simp] theorem qp_60 {st : S} {Q : D → S → Prop} : Rn (eqO (.str "nulls") (.str "number")) st Q = Q (.bl false) st := eqS_f (by decide +kernel)
@[simp] theorem np_60 {st : S} {Q : D → S → Prop} : Rn (neO (.str "nulls") (.str "number")) st Q = Q (.bl true) st := neS_t (by decide +kernel)
@[simp] theorem bp_61 : (("nulls" : Str) == "string") = false := by decide +kernel
@[simp] theorem qp_61 {st : S} {Q : D → S → Prop} : Rn (eqO (.str "nulls") (.str "string")) st Q = Q (.bl false) st := eqS_f (by decide +kernel)
@[simp] theorem np_61 {st : S} {Q : D → S → Prop} : Rn (neO (.str "nulls") (.str "string")) st Q = Q (.bl true) st := neS_t (by decide +kernel)
@[simp] theorem bp_62 : (("nulls" : Str) == "array") = false := by decide +kernel
@[simp] theorem qp_62 {st : S} {Q : D → S → Prop} : Rn (eqO (.str "nulls") (.str "array")) st Q = Q (.bl false) st := eqS_f (by decide +kernel)
@[simp] theorem np_62 {st : S} {Q : D → S → Prop} : Rn (neO (.str "nulls") (.str "array")) st Q = Q (.bl true) st := neS_t (by decide +kernel)
@[simp] theorem bp_63 : (("nulls" : Str) == "object") = false := by decide +kernel
@[simp] theorem qp_63 {st : S} {Q : D → S → Prop} : Rn (eqO (.str "nulls") (.str "object")) st Q = Q (.bl false) st := eqS_f (by decide +kernel)
@[simp] theorem np_63 {st : S} {Q : D → S → Prop} : Rn (neO (.str "nulls") (.str "object")) st Q = Q (.bl true) st := neS_t (by decide +kernel)
@[simp] theorem qp_64 {st : S} {Q : D → S → Prop} : Rn (eqO (.str "nulls") (.str "nulls")) st Q = Q (.bl true) st := eqS_t (by decide +kernel)
@[simp] theorem np_64 {st : S} {Q : D → S → Prop} : Rn (neO (.str "nulls") (.str "nulls")) st Q = Q (.bl false) st := neS_f (by decide +kernel)
@[simp] theorem qp_65 {st : S} {Q : D → S → Prop} : Rn (eqO (.str "<") (.str "<")) st Q = Q (.bl true) st := eqS_t (by decide +kernel)
@[simp] theorem np_65 {st : S} {Q : D → S → Prop} : Rn (neO (.str "<") (.str "<")) st Q = Q (.bl false) st := neS_f (by decide +kernel)
@[simp] theorem bp_66 : (("<" : Str) == "<=") = false := by decide +kernel
@[simp] theorem qp_66 {st : S} {Q : D → S → Prop} : Rn (eqO (.str "<") (.str "<=")) st Q = Q (.bl false) st := eqS_f (by decide +kernel)
@[simp] theorem np_66 {st : S} {Q : D → S → Prop} : Rn (neO (.str "<") (.str "<=")) st Q = Q (.bl true) st := neS_t (by decide +kernel)
@[simp] theorem bp_67 : (("<" : Str) == "==") = false := by decide +kernel
@[simp] theorem qp_67 {st : S} {Q : D → S → Prop} : Rn (eqO (.str "<") (.str "==")) st Q = Q (.bl false) st := eqS_f (by decide +kernel)
@[simp] theorem np_67 {st : S} {Q : D → S → Prop} : Rn (neO (.str "<") (.str "==")) st Q = Q (.bl true) st := neS_t (by decide +kernel)
@[simp] theorem bp_68 : (("<" : Str) == ">=") = false := by decide +kernel
@[simp] theorem qp_68 {st : S} {Q : D → S → Prop} : Rn (eqO (.str "<") (.str ">=")) st Q = Q (.bl false) st := eqS_f (by decide +kernel)
@[simp] theorem np_68 {st : S} {Q : D → S → Prop} : Rn (neO (.str "<") (.str ">=")) st Q = Q (.bl true) st := neS_t (by decide +kernel)
@[simp] theorem bp_69 : (("<" : Str) == ">") = false := by decide +kernel
@[simp] theorem qp_69 {st : S} {Q : D → S → Prop} : Rn (eqO (.str "<") (.str ">")) st Q = Q (.bl false) st := eqS_f (by decide +kernel)
@[simp] theorem np_69 {st : S} {Q : D → S → Prop} : Rn (neO (.str "<") (.str ">")) st Q = Q (.bl true) st := neS_t (by decide +kernel)
@[simp] theorem bp_70 : (("<=" : Str) == "<") = false := by decide +kernel
@[simp] theorem qp_70 {st : S} {Q : D → S → Prop} : Rn (eqO (.str "<=") (.str "<")) st Q = Q (.bl false) st := eqS_f (by decide +kernel)
@[simp] theorem np_70 {st : S} {Q : D → S → Prop} : Rn (neO (.str "<=") (.str "<")) st Q = Q (.bl true) st := neS_t (by decide +kernel)
@[simp] theorem qp_71 {st : S} {Q : D → S → Prop} : Rn (eqO (.str "<=") (.str "<=")) st Q = Q (.bl true) st := eqS_t (by decide +kernel)
@[simp] theorem np_71 {st : S} {Q : D → S → Prop} : Rn (neO (.str "<=") (.str "<=")) st Q = Q (.bl false) st := neS_f (by decide +kernel)
@[simp] theorem bp_72 : (("<=" : Str) == "==") = false := by decide +kernel
@[simp] theorem qp_72 {st : S} {Q : D → S → Prop} : Rn (eqO (.str "<=") (.str "==")) st Q = Q (.bl false) st := eqS_f (by decide +kernel)
@[simp] theorem np_72 {st : S} {Q : D → S → Prop} : Rn (neO (.str "<=") (.str "==")) st Q = Q (.bl true) st := neS_t (by decide +kernel)
@[simp] theorem bp_73 : (("<=" : Str) == ">=") = false := by decide +kernel
@[simp] theorem qp_73 {st : S} {Q : D → S → Prop} : Rn (eqO (.str "<=") (.str ">=")) st Q = Q (.bl false) st := eqS_f (by decide +kernel)
@[simp] theorem np_73 {st : S} {Q : D → S → Prop} : Rn (neO (.str "<=") (.str ">=")) st Q = Q (.bl true) st := neS_t (by decide +kernel)
@[simp] theorem bp_74 : (("<=" : Str) == ">") = false := by decide +kernel
@[simp] theorem qp_74 {st : S} {Q : D → S → Prop} : Rn (eqO (.str "<=") (.str ">")) st Q = Q (.bl false) st := eqS_f (by decide +kernel)
@[simp] theorem np_74 {st : S} {Q : D → S → Prop} : Rn (neO (.str "<=") (.str ">")) st Q = Q (.bl true) st := neS_t (by decide +kernel)
@[simp] theorem bp_75 : (("==" : Str) == "<") = false := by decide +kernel
@[simp] theorem qp_75 {st : S} {Q : D → S → Prop} : Rn (eqO (.str "==") (.str "<")) st Q = Q (.bl false) st := eqS_f (by decide +kernel)
@[simp] theorem np_75 {st : S} {Q : D → S → Prop} : Rn (neO (.str "==") (.str "<")) st Q = Q (.bl true) st := neS_t (by decide +kernel)
@[simp] theorem bp_76 : (("==" : Str) == "<=") = false := by decide +kernel
@[simp] theorem qp_76 {st : S} {Q : D → S → Prop} : Rn (eqO (.str "==") (.str "<=")) st Q = Q (.bl false) st := eqS_f (by decide +kernel)
@[simp] theorem np_76 {st : S} {Q : D → S → Prop} : Rn (neO (.str "==") (.str "<=")) st Q = Q (.bl true) st := neS_t (by decide +kernel)
@[simp] theorem qp_77 {st : S} {Q : D → S → Prop} : Rn (eqO (.str "==") (.str "==")) st Q = Q (.bl true) st := eqS_t (by decide +kernel)
@[simp] theorem np_77 {st : S} {Q : D → S → Prop} : Rn (neO (.str "==") (.str "==")) st Q = Q (.bl false) st := neS_f (by decide +kernel)
@[simp] theorem bp_78 : (("==" : Str) == ">=") = false := by decide +kernel
@[simp] theorem qp_78 {st : S} {Q : D → S → Prop} : Rn (eqO (.str "==") (.str ">=")) st Q = Q (.bl false) st := eqS_f (by decide +kernel)
@[simp] theorem np_78 {st : S} {Q : D → S → Prop} : Rn (neO (.str "==") (.str ">=")) st Q = Q (.bl true) st := neS_t (by decide +kernel)
@[simp] theorem bp_79 : (("==" : Str) == ">") = false := by decide +kernel
@[simp] theorem qp_79 {st : S} {Q : D → S → Prop} : Rn (eqO (.str "==") (.str ">")) st Q = Q (.bl false) st := eqS_f (by decide +kernel)
@[simp] theorem np_79 {st : S} {Q : D → S → Prop} : Rn (neO (.str "==") (.str ">")) st Q = Q (.bl true) st := neS_t (by decide +kernel)
@[simp] theorem bp_80 : ((">=" : Str) == "<") = false := by decide +kernel
@[simp] theorem qp_80 {st : S} {Q : D → S → Prop} : Rn (eqO (.str ">=") (.str "<")) st Q = Q (.bl false) st := eqS_f (by decide +kernel)
@[simp] theorem np_80 {st : S} {Q : D → S → Prop} : Rn (neO (.str ">=") (.str "<")) st Q = Q (.bl true) st := neS_t (by decide +kernel)
@[simp] theorem bp_81 : ((">=" : Str) == "<=") = false := by decide +kernel
@[simp] theorem qp_81 {st : S} {Q : D → S → Prop} : Rn (eqO (.str ">=") (.str "<=")) st Q = Q (.bl false) st := eqS_f (by decide +kernel)
@[simp] theorem np_81 {st : S} {Q : D → S → Prop} : Rn (neO (.str ">=") (.str "<=")) st Q = Q (.bl true) st := neS_t (by decide +kernel)
@[simp] theorem bp_82 : ((">=" : Str) == "==") = false := by decide +kernel
@[simp] theorem qp_82 {st : S} {Q : D → S → Prop} : Rn (eqO (.str ">=") (.str "==")) st Q = Q (.bl false) st := eqS_f (by decide +kernel)
@[simp] theorem np_82 {st : S} {Q : D → S → Prop} : Rn (neO (.str ">=") (.str "==")) st Q = Q (.bl true) st := neS_t (by decide +kernel)
@[simp] theorem qp_83 {st : S} {Q : D → S → Prop} : Rn (eqO (.str ">=") (.str ">=")) st Q = Q (.bl true) st := eqS_t (by decide +kernel)
@[simp] theorem np_83 {st : S} {Q : D → S → Prop} : Rn (neO (.str ">=") (.str ">=")) st Q = Q (.bl false) st := neS_f (by decide +kernel)
@[simp] theorem bp_84 : ((">=" : Str) == ">") = false := by decide +kernel
@[simp] theorem qp_84 {st : S} {Q : D → S → Prop} : Rn (eqO (.str ">=") (.str ">")) st Q = Q (.bl false) st := eqS_f (by decide +kernel)
@[simp] theorem np_84 {st : S} {Q : D → S → Prop} : Rn (neO (.str ">=") (.str ">")) st Q = Q (.bl true) st := neS_t (by decide +kernel)
@[simp] theorem bp_85 : ((">" : Str) == "<") = false := by decide +kernel
@[simp] theorem qp_85 {st : S} {Q : D → S → Prop} : Rn (eqO (.str ">") (.str "<")) st Q = Q (.bl false) st := eqS_f (by decide +kernel)
@[simp] theorem np_85 {st : S} {Q : D → S → Prop} : Rn (neO (.str ">") (.str "<")) st Q = Q (.bl true) st := neS_t (by decide +kernel)
@[simp] theorem bp_86 : ((">" : Str) == "<=") = false := by decide +kernel
@[simp] theorem qp_86 {st : S} {Q : D → S → Prop} : Rn (eqO (.str ">") (.str "<=")) st Q = Q (.bl false) st := eqS_f (by decide +kernel)
@[simp] theorem np_86 {st : S} {Q : D → S → Prop} : Rn (neO (.str ">") (.str "<=")) st Q = Q (.bl true) st := neS_t (by decide +kernel)
@[simp] theorem bp_87 : ((">" : Str) == "==") = false := by decide +kernel
@[simp] theorem qp_87 {st : S} {Q : D → S → Prop} : Rn (eqO (.str ">") (.str "==")) st Q = Q (.bl false) st := eqS_f (by decide +kernel)
@[simp] theorem np_87 {st : S} {Q : D → S → Prop} : Rn (neO (.str ">") (.str "==")) st Q = Q (.bl true) st := neS_t (by decide +kernel)
@[simp] theorem bp_88 : ((">" : Str) == ">=") = false := by decide +kernel
@[simp] theorem qp_88 {st : S} {Q : D → S → Prop} : Rn (eqO (.str ">") (.str ">=")) st Q = Q (.bl false) st := eqS_f (by decide +kernel)
@[simp] theorem np_88 {st : S} {Q : D → S → Prop} : Rn (neO (.str ">") (.str ">=")) st Q = Q (.bl true) st := neS_t (by decide +kernel)
@[simp] theorem qp_89 {st : S} {Q : D → S → Prop} : Rn (eqO (.str ">") (.str ">")) st Q = Q (.bl true) st := eqS_t (by decide +kernel)
@[simp] theorem np_89 {st : S} {Q : D → S → Prop} : Rn (neO (.str ">") (.str ">")) st Q = Q (.bl false) st := neS_f (by decide +kernel)
@[simp] theorem qp_90 {st : S} {Q : D → S → Prop} : Rn (eqO (.str "asked") (.str "asked")) st Q = Q (.bl true) st := eqS_t (by decide +kernel)
@[simp] theorem np_90 {st : S} {Q : D → S → Prop} : Rn (neO (.str "asked") (.str "asked")) st Q = Q (.bl false) st := neS_f (by decide +kernel)
@[simp] theorem bp_91 : (("asked" : Str) == "allowed") = false := by decide +kernel
@[simp] theorem qp_91 {st : S} {Q : D → S → Prop} : Rn (eqO (.str "asked") (.str "allowed")) st Q = Q (.bl false) st := eqS_f (by decide +kernel)
@[simp] theorem np_91 {st : S} {Q : D → S → Prop} : Rn (neO (.str "asked") (.str "allowed")) st Q = Q (.bl true) st := neS_t (by decide +kernel)
@[simp] theorem bp_92 : (("asked" : Str) == "must") = false := by decide +kernel
@[simp] theorem qp_92 {st : S} {Q : D → S → Prop} : Rn (eqO (.str "asked") (.str "must")) st Q = Q (.bl false) st := eqS_f (by decide +kernel)
@[simp] theorem np_92 {st : S} {Q : D → S → Prop} : Rn (neO (.str "asked") (.str "must")) st Q = Q (.bl true) st := neS_t (by decide +kernel)
@[simp] theorem bp_93 : (("allowed" : Str) == "asked") = false := by decide +kernel
@[simp] theorem qp_93 {st : S} {Q : D → S → Prop} : Rn (eqO (.str "allowed") (.str "asked")) st Q = Q (.bl false) st := eqS_f (by decide +kernel)
@[simp] theorem np_93 {st : S} {Q : D → S → Prop} : Rn (neO (.str "allowed") (.str "asked")) st Q = Q (.bl true) st := neS_t (by decide +kernel)
@[simp] theorem qp_94 {st : S} {Q : D → S → Prop} : Rn (eqO (.str "allowed") (.str "allowed")) st Q = Q (.bl true) st := eqS_t (by decide +kernel)
@[simp] theorem np_94 {st : S} {Q : D → S → Prop} : Rn (neO (.str "allowed") (.str "allowed")) st Q = Q (.bl false) st := neS_f (by decide +kernel)
@[simp] theorem bp_95 : (("allowed" : Str) == "must") = false := by decide +kernel
@[simp] theorem qp_95 {st : S} {Q : D → S → Prop} : Rn (eqO (.str "allowed") (.str "must")) st Q = Q (.bl false) st := eqS_f (by decide +kernel)
@[simp] theorem np_95 {st : S} {Q : D → S → Prop} : Rn (neO (.str "allowed") (.str "must")) st Q = Q (.bl true) st := neS_t (by decide +kernel)
@[simp] theorem bp_96 : (("must" : Str) == "asked") = false := by decide +kernel
@[simp] theorem qp_96 {st : S} {Q : D → S → Prop} : Rn (eqO (.str "must") (.str "asked")) st Q = Q (.bl false) st := eqS_f (by decide +kernel)
@[simp] theorem np_96 {st : S} {Q : D → S → Prop} : Rn (neO (.str "must") (.str "asked")) st Q = Q (.bl true) st := neS_t (by decide +kernel)
@[simp] theorem bp_97 : (("must" : Str) == "allowed") = false := by decide +kernel
@[simp] theorem qp_97 {st : S} {Q : D → S → Prop} : Rn (eqO (.str "must") (.str "allowed")) st Q = Q (.bl false) st := eqS_f (by decide +kernel)
@[simp] theorem np_97 {st : S} {Q : D → S → Prop} : Rn (neO (.str "must") (.str "allowed")) st Q = Q (.bl true) st := neS_t (by decide +kernel)
@[simp] theorem qp_98 {st : S} {Q : D → S → Prop} : Rn (eqO (.str "must") (.str "must")) st Q = Q (.bl true) st := eqS_t (by decide +kernel)
@[simp] theorem np_98 {st : S} {Q : D → S → Prop} : Rn (neO (.str "must") (.str "must")) st Q = Q (.bl false) st := neS_f (by decide +kernel)
end K37


namespace K37
open PySem Mx
open L2 (Key)
/-! ### values and tests -/
section
variable {st : S} {Q : D → S → Prop}
theorem run_lenN {xs : List D} : Rn (on1 lenD [.ref st.length]) (st ++ [.lst xs]) Q = Q (.int xs.length) (st ++ [.lst xs]) := run_lenR gn
theorem run_ixN {xs : List D} {i : Int} : Rn (ixD (.ref st.length) (.int i)) (st ++ [.lst xs]) Q = Rn (ofO (L2.atI xs i)) (st ++ [.lst xs]) Q := run_ixR gn
end
def NumV (a t : Int) : D := .tup [.str "number", .int a, .int t]
def StrV (l : List Int) : D := .tup [.str "string", .tup (l.map .int)]
def Dec (a t : Int) : Prop := a.fmod 10 ≠ 0 ∨ (a = 0 ∧ t = 0)
theorem value_num (k : Nat) (a t : Int) (h : Dec a t) : Gv (tb (k + 3) .Fis_value_within [NumV a t, .int 30]) (.bl true) := by
  refine gv_of fun st => ?_
  rw [t_b_is_value_within]
  unfold NumV
  simp [b_is_value_within, isT_tup, isS_str, run_lenN, run_ixN, is_decimal_ok (k + 0) a t h, sz]
theorem value_str (k : Nat) (l : List Int) (h : Pts l) : Gv (tb (k + 3) .Fis_value_within [StrV l, .int 30]) (.bl true) := by
  refine gv_of fun st => ?_
  rw [t_b_is_value_within]
  unfold StrV
  simp [b_is_value_within, isT_tup, isS_str, run_lenN, run_ixN, sz]
  exact (is_points_ok k l h).run fun ex => by simp
/-- an operand of a test, and its kind -/
inductive OpV : D → Str → Prop
  | num (a t : Int) (h : Dec a t) : OpV (NumV a t) "number"
  | str (l : List Int) (h : Pts l) : OpV (StrV l) "string"
theorem is_value_ok (k : Nat) {v : D} {kd : Str} (h : OpV v kd) : Gv (tb (k + 4) .Fis_value [v]) (.bl true) := by
  refine gv_of fun st => ?_
  rw [t_b_is_value]
  simp [b_is_value]
  cases h with
  | num a t h => exact (value_num k a t h).run fun ex => by simp
  | str l h => exact (value_str k l h).run fun ex => by simp
def signs : List Str := ["<", "<=", "==", ">=", ">"]
inductive TestD : D → Str → Prop
  | mk (s : Str) (v : D) (kd : Str) (hs : s ∈ signs) (hv : OpV v kd) : TestD (.tup [.str s, v]) kd
theorem is_test_ok (k : Nat) {d : D} {kd : Str} (h : TestD d kd) : Gv (tb (k + 5) .Fis_test [d]) (.bl true) := by
  refine gv_of fun st => ?_
  obtain ⟨s, v, _, hs, hv⟩ := h
  rw [t_b_is_test]
  simp [signs] at hs
  have hs' : ((s == "<" : Bool) || (s == "<=") || (s == "==") || (s == ">=") || (s == ">")) = true := by
    rcases hs with rfl | rfl | rfl | rfl | rfl <;> decide +kernel
  rcases hs with rfl | rfl | rfl | rfl | rfl
  all_goals
    simp [b_is_test, isT_tup, isS_str]
    refine (is_value_ok k hv).run fun ex => ?_
    cases hv with
    | num a t h => simp [NumV, sz]
    | str l h => simp [StrV, sz]
theorem TestD.kind {d : D} {kd : Str} (h : TestD d kd) : ∃ s r, d = .tup [.str s, .tup (.str kd :: r)] := by
  obtain ⟨s, v, _, hs, hv⟩ := h
  cases hv with
  | num a t h => exact ⟨s, _, rfl⟩
  | str l h => exact ⟨s, _, rfl⟩
theorem are_tests_ok (k : Nat) (ts : List D) (kd : Str) (hk : kd = "number" ∨ kd = "string") (hn : ts.length ≤ 100) (h : ∀ t ∈ ts, TestD t kd) : Gv (tb (k + 6) .Fare_tests_of [.tup ts, .str kd]) (.bl true) := by
  refine gv_of fun st => ?_
  rw [t_b_are_tests_of]
  simp [b_are_tests_of, isT_tup, -run_lc]
  rw [run_lc]
  simp [-run_lc]
  refine lcmap (fun _ => .bl true) (by omega) (fun _ _ => rfl) ?_ fun ex => ?_
  · rintro d hd ex
    simp [wipeE]
    refine (is_test_ok k (h d hd)).run fun ex2 => ?_
    obtain ⟨s, r, rfl⟩ := (h d hd).kind
    rcases hk with rfl | rfl
    · simp
    · simp
  · simp [-List.length_append, all_new]
end K37


namespace K37
open PySem Mx
open L2 (Key)
/-! ### names, members, cases -/
def letters : Str := "abcdefghijklmnopqrstuvwxyz"
def okChr : D → Bool
  | .str w => match oneSign w with
    | some c => decide (c ∈ letters.cps.toList)
    | none => false
  | _ => false
def chrs (x : Str) : List D := x.cps.toList.map fun c => .str ⟨#[c]⟩
def nameB (x : Str) : Bool := decide (1 ≤ x.length) && decide (x.length ≤ 6) && (chrs x).all okChr
theorem chr_at {x : Str} {st : S} {i : Nat} : (Src.chars x).at st i = lapOf (chrs x)[i]? := by
  show chrAt x.cps[i]? = _
  unfold chrs
  rw [List.getElem?_map, Array.getElem?_toList]
  cases x.cps[i]? <;> rfl
theorem run_inChr {w : Str} {st : S} {Q : D → S → Prop} {c : Nat} (h : oneSign w = some c) : Rn (inO (.str w) (.str letters)) st Q = Q (.bl (okChr (.str w))) st := by
  unfold inO
  rw [run_blM, run_bind]
  have e : (inStr (.str w) letters : M Bool) st = some (decide (c ∈ letters.cps.toList), st) := by
    show (match oneSign w with | some c => some (decide (c ∈ letters.cps.toList), st) | none => none) = _
    rw [h]
  refine (run_some (m := (inStr (.str w) letters : M Bool)) e).trans ?_
  have e2 : okChr (.str w) = decide (c ∈ letters.cps.toList) := by
    show (match oneSign w with | some c => decide (c ∈ letters.cps.toList) | none => false) = _
    rw [h]
  rw [e2]
  rfl
@[simp] theorem run_seqC {x : Str} {st : S} {QR : Src → S → Prop} : Rn (seqSrc (.str x)) st QR = QR (.chars x) st := rfl
theorem is_type_name_ok (k : Nat) (x : Str) (h : x.length ≤ 1000) : Gv (tb (k + 1) .Fis_type_name [.str x]) (.bl (nameB x)) := by
  refine gv_of fun st => ?_
  rw [t_b_is_type_name]
  have hl : (1 : Int) ≤ x.length ↔ 1 ≤ x.length := by omega
  have hl2 : (x.length : Int) ≤ 6 ↔ x.length ≤ 6 := by omega
  simp [b_is_type_name, isS_str, run_lenS (z := x) (by simpa using sz h)]
  by_cases h1 : 1 ≤ x.length
  case neg => simp [h1, hl, nameB]
  by_cases h2 : x.length ≤ 6
  case neg => simp [h1, h2, hl, hl2, nameB]
  simp [h1, h2, hl, hl2]
  have hc : (chrs x).length ≤ 1000 := by
    unfold chrs
    rw [List.length_map]
    exact h
  refine lcmap (fun d => .bl (okChr d)) hc (fun _ _ => chr_at) ?_ fun ex => ?_
  · rintro d hd ex
    obtain ⟨c, hc, rfl⟩ := List.mem_map.mp hd
    simp [wipeE]
    rw [show ("abcdefghijklmnopqrstuvwxyz" : Str) = letters from rfl, run_inChr (c := c) rfl]
    simp
  · simp [-List.length_append, all_new, nameB, h1, h2]
theorem isS_int {x : Int} {st : S} {Q : D → S → Prop} : Rn (on2 isi1 [.int x, .ty .str]) st Q = Q (.bl false) st := rfl
theorem is_type_int (k : Nat) (i : Int) : Gv (tb (k + 1) .Fis_type_name [.int i]) (.bl false) := by
  refine gv_of fun st => ?_
  rw [t_b_is_type_name]
  simp [b_is_type_name, isS_int]
/-! what == takes -/
def Py (n : Nat) (d : D) : Prop := ∃ p, toPy [] n d = some p
theorem Py.str {n : Nat} {x : Str} (h : PyData.strOk x = true) : Py (n + 1) (.str x) := ⟨_, toPy_str h⟩
theorem Py.int {n : Nat} {i : Int} : Py (n + 1) (.int i) := ⟨_, rfl⟩
theorem Py.non {n : Nat} : Py (n + 1) .non := ⟨_, rfl⟩
theorem mapO_py {n : Nat} : ∀ {ds : List D}, (∀ d ∈ ds, Py n d) → ∃ ps, mapO (toPy [] n) ds = some ps
  | [], _ => ⟨[], rfl⟩
  | d :: ds, h => by
    obtain ⟨p, e⟩ := h d (List.mem_cons_self ..)
    obtain ⟨ps, e2⟩ := mapO_py fun x hx => h x (List.mem_cons_of_mem _ hx)
    exact ⟨p :: ps, by unfold mapO; rw [e, e2]⟩
theorem Py.tup {n : Nat} {ds : List D} (h : ∀ d ∈ ds, Py n d) : Py (n + 1) (.tup ds) := by
  obtain ⟨ps, e⟩ := mapO_py h
  exact ⟨.tuple ps, by unfold toPy; rw [e]⟩
theorem Py.up {n m : Nat} {d : D} (h : Py n d) (i : n ≤ m) {st : S} : (toPy st m d).isSome = true := by
  obtain ⟨p, e⟩ := h
  rw [toPy_pure e i]
  rfl
theorem Py.mono {n m : Nat} {d : D} (h : Py n d) (i : n ≤ m) : Py m d := by
  obtain ⟨p, e⟩ := h
  exact ⟨p, toPy_pure e i⟩
theorem mapO_some {α β : Type} {f : α → Option β} : ∀ {xs : List α}, (∀ x ∈ xs, (f x).isSome = true) → ∃ ys, mapO f xs = some ys ∧ ys.length = xs.length
  | [], _ => ⟨[], rfl, rfl⟩
  | x :: xs, h => by
    obtain ⟨y, e⟩ := Option.isSome_iff_exists.mp (h x (List.mem_cons_self ..))
    obtain ⟨ys, e2, e3⟩ := mapO_some fun z hz => h z (List.mem_cons_of_mem _ hz)
    exact ⟨y :: ys, by unfold mapO; rw [e, e2], by simp [e3]⟩
theorem tup_nil {x : D} {xs : List D} {st : S} (h : ∀ z ∈ x :: xs, (toPy st 63 z).isSome = true) {Q : D → S → Prop} : Rn (eqO (.tup (x :: xs)) (.tup [])) st Q = Q (.bl false) st := by
  obtain ⟨ys, e, el⟩ := mapO_some h
  have e1 : toPy st 64 (.tup (x :: xs)) = some (.tuple ys) := by unfold toPy; rw [e]
  have e2 : toPy st 64 (.tup []) = some (.tuple []) := rfl
  rw [run_eqO, e1, e2]
  show Q (.bl (PyData.eqv (.tuple ys) (.tuple []))) st = _
  cases ys with
  | nil => cases el
  | cons y ys => rw [PyData.eqv, PyData.eqvAll]
theorem nil_nil {st : S} {Q : D → S → Prop} : Rn (eqO (.tup []) (.tup [])) st Q = Q (.bl true) st := by
  rw [run_eqO]
  show Q (.bl (PyData.eqv (.tuple []) (.tuple []))) st = _
  rw [PyData.eqv, PyData.eqvAll]
theorem tup_nil' {x : D} {xs : List D} {st : S} (h : ∀ z ∈ x :: xs, Py 60 z) {Q : D → S → Prop} : Rn (eqO (.tup (x :: xs)) (.tup [])) st Q = Q (.bl false) st := tup_nil fun z hz => (h z hz).up (by decide)
theorem Py.op {v : D} {kd : Str} (h : OpV v kd) : Py 3 v := by
  cases h with
  | num a t h =>
    refine Py.tup fun d hd => ?_
    simp at hd
    rcases hd with rfl | rfl | rfl
    · exact Py.str (by decide +kernel)
    · exact Py.int
    · exact Py.int
  | str l h =>
    refine Py.tup fun d hd => ?_
    simp at hd
    rcases hd with rfl | rfl
    · exact Py.str (by decide +kernel)
    · refine Py.tup fun d hd => ?_
      obtain ⟨i, _, rfl⟩ := List.mem_map.mp hd
      exact Py.int
theorem signs_ok : ∀ s ∈ signs, PyData.strOk s = true := by decide +kernel
theorem Py.test {d : D} {kd : Str} (h : TestD d kd) : Py 4 d := by
  obtain ⟨s, v, _, hs, hv⟩ := h
  refine Py.tup fun d hd => ?_
  simp at hd
  rcases hd with rfl | rfl
  · exact Py.str (signs_ok s hs)
  · exact Py.op hv
/-! the names of a book -/
def eight8 : List Str := ["a", "b", "c", "item", "root", "zz", "many", "or"]
def eight : List Str := ["a", "b", "c", "item", "root", "zz", "many", "or", "na", "nb", "nc"]
theorem eight_sub : ∀ x ∈ eight8, x ∈ eight := by decide +kernel
theorem eight_ok : ∀ x ∈ eight, PyData.strOk x = true ∧ nameB x = true ∧ x.length ≤ 1000 := by decide +kernel
structure Ns (NM : List Str) : Prop where
  sub : ∀ x ∈ NM, x ∈ eight
  nd : NM.Nodup
  pos : 0 < NM.length
  le : NM.length ≤ 3
/-! members -/
def Mb : Type := List Int × Str × Str
def Mb.d (m : Mb) : D := .tup [.tup (m.1.map .int), .str m.2.1, .str m.2.2]
structure Mb.Ok (NM : List Str) (m : Mb) : Prop where
  pts : Pts m.1
  name : m.2.1 ∈ NM
  due : m.2.2 = "asked" ∨ m.2.2 = "allowed"
def ptK (l : List Int) : List Key := l.map .inl
theorem keys_pts : ∀ l : List Int, mapKey (l.map .int) = some (ptK l)
  | [] => rfl
  | i :: l => by
    rw [List.map_cons, mapKey, keys_pts l]
    rfl
theorem run_inDit {st : S} {Q : D → S → Prop} {m : Nat} {l : List Int} {kvs : List (List Key × D)} (h : st[m]? = some (.dit kvs)) : Rn (inO (.tup (l.map .int)) (.ref m)) st Q = Q (.bl (look kvs (ptK l)).isSome) st := by
  unfold inO
  rw [run_blM, run_bind]
  have e : inRef (.tup (l.map .int)) m st = some ((look kvs (ptK l)).isSome, st) := by
    unfold inRef
    rw [h]
    show (match mapKey (l.map .int) with | some k => some ((look kvs k).isSome, st) | none => none) = _
    rw [keys_pts]
  refine (run_some (m := (inRef (.tup (l.map .int)) m : M Bool)) e).trans ?_
  rfl
theorem run_setDit {st : S} {m : Nat} {l : List Int} {d : D} {kvs : List (List Key × D)} {QU : Unit → S → Prop} (h : st[m]? = some (.dit kvs)) (hl : kvs.length ≤ 1000) : Rn (setD (.ref m) (.tup (l.map .int)) d) st QU = QU () (st.set m (.dit (put kvs (ptK l) d))) := run_some (by
  show setRef m (.tup (l.map .int)) d st = _
  unfold setRef
  rw [h]
  show (match mapKey (l.map .int) with | some k => if kvs.length < sizeLine then some ((), st.set m (.dit (put kvs k d))) else none | none => none) = _
  rw [keys_pts]
  try dsimp only
  rw [if_pos (sz3 (by omega))])
theorem set_mid {st ex : S} {a b : O} : (st ++ (a :: ex)).set st.length b = st ++ (b :: ex) := by
  rw [List.set_append_right _ _ (Nat.le_refl _)]
  simp
theorem get_mid {st ex : S} {a : O} : (st ++ (a :: ex))[st.length]? = some a := by simp
theorem look_no' {κ : Type} [DecidableEq κ] {β : Type} {k : κ} : ∀ {l : List (κ × β)}, k ∉ l.map (·.1) → look l k = none
  | [], _ => rfl
  | p :: r, h => by
    rw [List.map_cons, List.mem_cons, not_or] at h
    unfold look
    rw [if_neg fun e => h.1 e.symm]
    exact look_no' h.2
theorem run_emptyT {es : Es} {st : S} {Q : D → S → Prop} : Rn (emptyT es) st Q = Q (.ref st.length) (st ++ [.dit []]) := rfl
end K37


namespace K37
open PySem Mx
open L2 (Key)
theorem not_take {α : Type} {l : List α} (h : l.Nodup) {i : Nat} {x : α} (hx : l[i]? = some x) : x ∉ l.take i := fun hm => by
  obtain ⟨j, hj, e⟩ := List.getElem_of_mem hm
  rw [List.length_take] at hj
  rw [List.getElem_take] at e
  obtain ⟨hi, e2⟩ := List.getElem?_eq_some_iff.mp hx
  have := (List.getElem_inj h).mp (e.trans e2.symm)
  omega
theorem are_triples_ok (k n : Nat) (NM : List Str) (ms : List Mb) (hl : ms.length ≤ 6) (h : ∀ m ∈ ms, m.Ok NM) (hnd : (ms.map fun m => ptK m.1).Nodup) (st : S) (hN : Nms st n NM) :
    Rn (tb (k + 3) .Fare_triples [.tup (ms.map Mb.d), .ref n]) st fun d s => d = .bl true ∧ ∃ ex, s = st ++ ex := by
  rw [t_b_are_triples]
  have h6 : ¬ (6 : Int) < (ms.length : Int) := by omega
  simp [b_are_triples, isT_tup, run_emptyT, h6]
  refine run_for (ds := ms.map Mb.d) (fun i es s => ∃ o kvs ex, es = [some (.tup (ms.map Mb.d)), some (.ref n), some (.ref st.length), o] ∧ s = st ++ (.dit kvs :: ex) ∧ kvs.map (·.1) = (ms.map fun m => ptK m.1).take i) (fun _ _ _ _ => rfl) ?_ ?_ _ _ _ _ ?_ ?_ ?_
  · rintro i d es s hd ⟨o, kvs, ex, rfl, rfl, hk⟩
    rw [List.getElem?_map] at hd
    obtain ⟨m, hm, rfl⟩ := Option.map_eq_some_iff.mp hd
    have om := h m (List.mem_of_getElem? hm)
    have nk : look kvs (ptK m.1) = none := look_no' (by rw [hk]; exact not_take hnd (by rw [List.getElem?_map, hm]; rfl))
    have hkl : kvs.length ≤ 1000 := by
      have := congrArg List.length hk
      rw [List.length_map, List.length_take, List.length_map] at this
      omega
    have hi : i < ms.length := (List.getElem?_eq_some_iff.mp hm).1
    simp [Mb.d, isT_tup]
    refine (is_points_ok k m.1 om.pts).run fun ex2 => ?_
    rw [List.append_assoc, List.cons_append]
    simp [run_inDit get_mid, nk, isS_str]
    rw [(hN.app _).nin]
    rcases om.due with hd | hd
    all_goals
      simp [om.name, hd, isS_str]
      rw [run_setDit get_mid hkl, set_mid]
      try dsimp only
      refine ⟨_, _, _, rfl, rfl, ?_⟩
      unfold put
      rw [nk]
      simp [hk]
      rw [List.take_add_one, List.getElem?_map, hm]
      simp
  · rintro es s ⟨o, kvs, ex, rfl, rfl, hk⟩
    simp
  · exact lt0 (by simpa using (by omega : ms.length ≤ 1000))
  · exact Nat.zero_le _
  · exact ⟨none, [], [], rfl, by simp, by simp⟩
end K37


namespace K37
open PySem Mx
open L2 (Key)
theorem items_len {α : Type} : ∀ p : Pat α, p.items.length * 2 ≤ 2 ^ p.deep
  | .none => by simp [Pat.items]
  | .item a => by simp [Pat.items, Pat.deep]
  | .many p => by
    have := items_len p
    have e : (Pat.many p).items = p.items := rfl
    have e2 : (Pat.many p).deep = 1 + p.deep := rfl
    rw [e, e2, Nat.pow_add]
    omega
  | .row p q => by
    have h1 := items_len p
    have h2 := items_len q
    have e : (Pat.row p q).items = p.items ++ q.items := rfl
    have e2 : (Pat.row p q).deep = 1 + max p.deep q.deep := rfl
    rw [e, e2, Nat.pow_add, List.length_append]
    have h3 : 2 ^ p.deep ≤ 2 ^ max p.deep q.deep := Nat.pow_le_pow_right (by decide) (Nat.le_max_left ..)
    have h4 : 2 ^ q.deep ≤ 2 ^ max p.deep q.deep := Nat.pow_le_pow_right (by decide) (Nat.le_max_right ..)
    omega
  | .either p q => by
    have h1 := items_len p
    have h2 := items_len q
    have e : (Pat.either p q).items = p.items ++ q.items := rfl
    have e2 : (Pat.either p q).deep = 1 + max p.deep q.deep := rfl
    rw [e, e2, Nat.pow_add, List.length_append]
    have h3 : 2 ^ p.deep ≤ 2 ^ max p.deep q.deep := Nat.pow_le_pow_right (by decide) (Nat.le_max_left ..)
    have h4 : 2 ^ q.deep ≤ 2 ^ max p.deep q.deep := Nat.pow_le_pow_right (by decide) (Nat.le_max_right ..)
    omega
def six : List (List Int) := [[97], [98], [107], [], [97, 97], [32]]
inductive GoodCase (NM : List Str) (TS : List D) : D → Prop
  | word (w : Str) (h : w = "null" ∨ w = "true" ∨ w = "false") : GoodCase NM TS (.tup [.str w])
  | tests (kd : Str) (ts : List D) (hk : kd = "number" ∨ kd = "string") (hl : ts.length ≤ 2) (h : ∀ t ∈ ts, t ∈ TS ∧ TestD t kd) : GoodCase NM TS (.tup [.str kd, .tup ts])
  | arr (p : Pat Str) (hd : p.deep ≤ 3) (hi : ∀ a ∈ p.items, a ∈ NM) : GoodCase NM TS (.tup [.str "array", p.toD id])
  | obj (ms : List Mb) (r : D) (hl : ms.length ≤ 3) (h : ∀ m ∈ ms, m.Ok NM) (hnd : (ms.map fun m => ptK m.1).Nodup) (h6 : ∀ m ∈ ms, m.1 ∈ six) (hr : r = .non ∨ ∃ x ∈ NM, r = .str x) : GoodCase NM TS (.tup [.str "object", .tup (ms.map Mb.d), r])
section
variable {st : S} {Q : D → S → Prop}
theorem iso_non : Rn (isO .non .non) st Q = Q (.bl true) st := rfl
theorem iso_s {x : Str} : Rn (isO (.str x) .non) st Q = Q (.bl false) st := rfl
end
theorem Ns.ok {NM : List Str} (h : Ns NM) {x : Str} (hx : x ∈ NM) : PyData.strOk x = true := (eight_ok x (h.sub x hx)).1
theorem Py.mb {NM : List Str} (h : Ns NM) {m : Mb} (hm : m.Ok NM) : Py 3 m.d := by
  refine Py.tup fun d hd => ?_
  simp at hd
  rcases hd with rfl | rfl | rfl
  · refine Py.tup fun d hd => ?_
    obtain ⟨i, _, rfl⟩ := List.mem_map.mp hd
    exact Py.int
  · exact Py.str (h.ok hm.name)
  · rcases hm.due with e | e
    all_goals
      rw [e]
      exact Py.str (by decide +kernel)
theorem is_case_ok (k n : Nat) {NM : List Str} {TS : List D} {d : D} (hs : Ns NM) (h : GoodCase NM TS d) (st : S) (hN : Nms st n NM) : Rn (tb (k + 22) .Fis_case [d, .ref n]) st fun x s => x = .bl true ∧ ∃ ex, s = st ++ ex := by
  rw [t_b_is_case]
  cases h with
  | word w h =>
    have e : ∀ {st : S} {Q : D → S → Prop}, Rn (eqO (.tup [.str w]) (.tup [])) st Q = Q (.bl false) st := tup_nil' (by
      simp
      rcases h with rfl | rfl | rfl <;> exact Py.str (by decide +kernel))
    rcases h with rfl | rfl | rfl
    all_goals simp [b_is_case, isT_tup, e, isS_str, sz]
  | tests kd ts hk hl h =>
    have e : ∀ {st : S} {Q : D → S → Prop}, Rn (eqO (.tup [.str kd, .tup ts]) (.tup [])) st Q = Q (.bl false) st := tup_nil' (by
      simp
      refine ⟨?_, Py.tup fun t ht => (Py.test (h t ht).2).mono (by decide)⟩
      rcases hk with rfl | rfl <;> exact Py.str (by decide +kernel))
    have A := are_tests_ok (k + 15) ts kd hk (by omega) fun t ht => (h t ht).2
    rcases hk with rfl | rfl
    all_goals
      simp [b_is_case, isT_tup, e, isS_str, sz]
      exact A.run fun ex => by simp
  | arr p hd hi =>
    have ho : Ok id p := fun a ha => hs.ok (hi a ha)
    have e : ∀ {st : S} {Q : D → S → Prop}, Rn (eqO (.tup [.str "array", p.toD id]) (.tup [])) st Q = Q (.bl false) st := tup_nil' (by
      simp
      refine ⟨Py.str (by decide +kernel), ?_⟩
      obtain ⟨ps, e⟩ := toPy_pat id p 60 (by omega) ho
      exact ⟨_, e⟩)
    simp [b_is_case, isT_tup, e, isS_str, sz]
    have hlen : p.items.length ≤ 8 := by
      have h1 := items_len p
      have h2 : 2 ^ p.deep ≤ 2 ^ 3 := Nat.pow_le_pow_right (by decide) hd
      omega
    refine (is_pattern_ok NM n (k + 20) p st (by omega) (by omega) (by omega) ho hN).mono fun x s ⟨h1, ex, h2⟩ => ?_
    subst h1 h2
    have hw : ip NM p = true := by
      unfold ip wi inN
      simp
      exact ⟨⟨by omega, hi⟩, hlen⟩
    rw [hw]
    simp
  | obj ms r hl h hnd h6 hr =>
    have e : ∀ {st : S} {Q : D → S → Prop}, Rn (eqO (.tup [.str "object", .tup (ms.map Mb.d), r]) (.tup [])) st Q = Q (.bl false) st := tup_nil' (by
      simp
      refine ⟨Py.str (by decide +kernel), Py.tup fun d hd => ?_, ?_⟩
      · obtain ⟨m, hm, rfl⟩ := List.mem_map.mp hd
        exact (Py.mb hs (h m hm)).mono (by decide)
      · rcases hr with rfl | ⟨x, hx, rfl⟩
        · exact Py.non
        · exact Py.str (hs.ok hx))
    simp [b_is_case, isT_tup, e, isS_str, sz]
    refine (are_triples_ok (k + 18) n NM ms (by omega) h hnd st hN).mono fun x s ⟨h1, ex, h2⟩ => ?_
    subst h1 h2
    rcases hr with rfl | ⟨x, hx, rfl⟩
    · simp [iso_non]
    · simp [iso_s, isS_str]
      rw [(hN.app _).inn]
      simp [hx]
end K37


namespace K37
open PySem Mx
open L2 (Key)
/-! ### a dict that is locked, and is_book -/
theorem lock_run {α : Type} {es : Es} {i n : Nat} {m : Es → M α} {st : S} {QA : α → S → Prop} {kvs : List (Key × D)} (hi : es[i]? = some (some (.ref n))) (hn : st[n]? = some (.dic kvs)) (h : Rn (m es) (st.set n (.dif kvs)) fun r s1 => ∃ ex, s1 = st.set n (.dif kvs) ++ ex ∧ QA r (st ++ ex)) : Rn (lockS i m es) st QA := by
  rw [run_lockS hi hn]
  refine h.mono fun r s ⟨ex, e, q⟩ => ?_
  subst e
  have nl : n < st.length := (List.getElem?_eq_some_iff.mp hn).1
  have e1 : (st.set n (.dif kvs) ++ ex)[n]? = some (.dif kvs) := ga (List.getElem?_set_self nl)
  rw [e1]
  try dsimp only
  have e2 : (st.set n (.dif kvs) ++ ex).set n (.dic kvs) = st ++ ex := by
    rw [List.set_append_left _ _ (by simpa using nl), List.set_set]
    congr 1
    refine List.ext_getElem? fun j => ?_
    by_cases hj : n = j
    · subst hj
      rw [List.getElem?_set_self nl, hn]
    · rw [List.getElem?_set_ne hj]
  rw [e2]
  exact q
theorem look_str {NM : List Str} {f : Str → D} (x : Str) : ∀ {l : List (Str × D)}, (look (l.map fun p => ((.inr p.1 : Key), p.2)) (.inr x)).isSome = decide (x ∈ l.map (·.1))
  | [] => rfl
  | p :: l => by
    rw [List.map_cons, List.map_cons]
    unfold look
    by_cases h : p.1 = x
    · subst h
      simp
    · rw [if_neg fun e => h (Sum.inr.inj e), look_str (NM := NM) (f := f) x]
      have h' : ¬ x = p.1 := fun e => h e.symm
      simp [h']
/-- a book: names and what stands there -/
def kvB (bk : List (Str × D)) : List (Key × D) := bk.map fun p => ((.inr p.1 : Key), p.2)
theorem nms_of {st : S} {b : Nat} {bk : List (Str × D)} (h : kvsOf st[b]? = some (kvB bk)) : Nms st b (bk.map (·.1)) := fun ex x Q => by
  have h2 : kvsOf (st ++ ex)[b]? = some (kvB bk) := by
    cases q : st[b]? with
    | none => rw [q] at h; cases h
    | some o => rw [ga q, ← q]; exact h
  have e : inRef (.str x) b (st ++ ex) = some (decide (x ∈ bk.map (·.1)), st ++ ex) := by
    unfold inRef
    cases q : (st ++ ex)[b]? with
    | none => rw [q] at h2; cases h2
    | some o =>
      rw [q] at h2
      have key : inDic (.str x) (kvB bk) (st ++ ex) = some (decide (x ∈ bk.map (·.1)), st ++ ex) := by
        show some ((look (kvB bk) (.inr x)).isSome, st ++ ex) = _
        unfold kvB
        rw [look_str (NM := []) (f := fun _ => .non)]
      cases o with
      | dic kvs => cases h2; exact key
      | dif kvs => cases h2; exact key
      | _ => cases h2
  exact run_some (m := (inRef (.str x) b : M Bool)) e
def bkV (L : Nat) (g : Fn → List D → M D) : Es → M (Es × Fl) := ifD (orT (notT (tstD (callD (on2 isi1) (consA (varD 1) (consA (cD (.ty .tuple)) (nilA)))))) (orT (tstD (opD gtO (callD (on1 lenD) (consA (varD 1) (nilA))) (cD (.int 7)))) (notT (tstD (callD (on1 allD) (consA (lcD L [3] (overS (varD 1)) (nameG 3) (yesT) (callD (g .Fis_case) (consA (varD 3) (consA (varD 0) (nilA))))) (nilA))))))) (retS (cD (.bl false))) (nxS)
def bk1 (L : Nat) (g : Fn → List D → M D) : Es → M (Es × Fl) := ifD (orT (notT (tstD (callD (on2 isi1) (consA (varD 0) (consA (cD (.ty .dict)) (nilA)))))) (notT (tstD (chD leO leO (cD (.int 1)) (callD (on1 lenD) (consA (varD 0) (nilA))) (cD (.int 8)))))) (retS (cD (.bl false))) (nxS)
def bk2 (L : Nat) (g : Fn → List D → M D) : Es → M (Es × Fl) := ifD (notT (tstD (callD (on1 allD) (consA (lockS 0 (lcD L [2] (keysS (varD 0)) (nameG 2) (yesT) (callD (g .Fis_type_name) (consA (varD 2) (nilA))))) (nilA))))) (retS (cD (.bl false))) (nxS)
def bk3 (L : Nat) (g : Fn → List D → M D) : Es → M (Es × Fl) := lockS 0 (forS L (valsS (varD 0)) (nameG 1) (bkV L g))
def bk4 (L : Nat) (g : Fn → List D → M D) : Es → M (Es × Fl) := retS (andD (opD leO (callD (on1 lenD) (consA (callD (g .Ftests_in) (consA (varD 0) (nilA))) (nilA))) (cD (.int 6))) (opD leO (callD (on1 lenD) (consA (callD (g .Fpoints_in) (consA (varD 0) (nilA))) (nilA))) (cD (.int 6))))
theorem b_is_book_cut (L : Nat) (g : Fn → List D → M D) : b_is_book L g = seqS (bk1 L g) (seqS (bk2 L g) (seqS (bk3 L g) (bk4 L g))) := rfl
/-- names judged, the dict locked -/
theorem bk2_run (k b : Nat) (st : S) (kvs : List (Key × D)) (f : D → Bool) (hb : st[b]? = some (.dic kvs)) (hl : kvs.length ≤ 8) (hf : ∀ q ∈ kvs, Gv (tb k .Fis_type_name [kD q.1]) (.bl (f (kD q.1)))) (QS : Es × Fl → S → Prop) (o1 o2 o3 : Option D)
    (h : ∀ ex, QS ([some (.ref b), o1, o2, o3], if (kvs.map fun q => kD q.1).all f = true then .nx else .rt (.bl false)) (st ++ ex)) : Rn (bk2 L0 (tb k) [some (.ref b), o1, o2, o3]) st QS := by
  unfold bk2
  simp
  refine lock_run (n := b) (kvs := kvs) rfl hb ?_
  have nl : b < st.length := (List.getElem?_eq_some_iff.mp hb).1
  have hd : (st.set b (.dif kvs))[b]? = some (.dif kvs) := List.getElem?_set_self nl
  simp [run_keysS, run_difAt hd]
  refine lcmap (fun d => .bl (f d)) (by simpa using (by omega : kvs.length ≤ 1000)) (fun _ _ => rfl) ?_ fun ex => ?_
  · rintro d hd ex
    obtain ⟨q, hq, rfl⟩ := List.mem_map.mp hd
    simp [wipeE]
    exact (hf q hq).run fun ex2 => ⟨rfl, ex2, by simp⟩
  · refine ⟨ex ++ [.lst ((kvs.map fun q => kD q.1).map fun d => .bl (f d))], by simp, ?_⟩
    have e : (st.set b (.dif kvs) ++ ex).length = (st ++ ex).length := by simp
    rw [e, ← List.append_assoc]
    try simp [-List.length_append, -List.append_assoc, -List.map_map]
    rw [all_new]
    have := h (ex ++ [.lst ((kvs.map fun q => kD q.1).map fun d => .bl (f d))])
    rw [← List.append_assoc] at this
    generalize hB : (kvs.map fun q => kD q.1).all f = B at this ⊢
    cases B
    · simpa using this
    · simpa using this
end K37


namespace K37
open PySem Mx
open L2 (Key)
/-- the check of one value of a book, the dict locked -/
def VB (k b : Nat) (st1 : S) (v : D) (q : Bool) : Prop := ∀ (ex : S) (o2 o3 : Option D), Rn (bkV L0 (tb k) [some (.ref b), some v, o2, o3]) (st1 ++ ex) fun p s => (∃ ex2, s = st1 ++ ex ++ ex2) ∧ ∃ o2' o3', p = ([some (.ref b), some v, o2', o3'], if q = true then .nx else .rt (.bl false))
theorem vb_tup (k b : Nat) (st1 : S) (cs : List D) (f : D → Bool) (hl : cs.length ≤ 7) (h : ∀ c ∈ cs, ∀ ex, Rn (tb k .Fis_case [c, .ref b]) (st1 ++ ex) fun x s => x = .bl (f c) ∧ ∃ ex2, s = st1 ++ ex ++ ex2) : VB k b st1 (.tup cs) (cs.all f) := fun ex o2 o3 => by
  unfold bkV
  have h7 : ¬ (7 : Int) < (cs.length : Int) := by omega
  simp [isT_tup, h7]
  refine lcmap (fun d => .bl (f d)) (by omega) (fun _ _ => rfl) ?_ fun ex2 => ?_
  · rintro d hd ex2
    simp [wipeE]
    have H := h d hd (ex ++ ex2)
    rw [← List.append_assoc] at H
    refine H.mono fun x s ⟨e, ex3, e2⟩ => ?_
    subst e e2
    simp
  · simp [-List.length_append, -List.append_assoc, all_new]
    generalize cs.all f = B
    cases B <;> simp
theorem vb_ref (k b : Nat) (st1 : S) (n : Nat) (xs : List D) (h : st1[n]? = some (.lst xs)) : VB k b st1 (.ref n) false := fun ex o2 o3 => by
  unfold bkV
  simp
  rw [isT_ref (ga h)]
  simp
theorem vb_non (k b : Nat) (st1 : S) : VB k b st1 .non false := fun ex o2 o3 => by
  unfold bkV
  simp [isT_non]
theorem bk3_run (k b : Nat) (st : S) (kvs : List (Key × D)) (f : D → Bool) (hb : st[b]? = some (.dic kvs)) (hl : kvs.length ≤ 8) (hf : ∀ q ∈ kvs, VB k b (st.set b (.dif kvs)) q.2 (f q.2)) (QS : Es × Fl → S → Prop) (o1 o2 o3 : Option D)
    (h : ∀ o1 o2 o3 ex, QS ([some (.ref b), o1, o2, o3], if (kvs.map fun q => q.2).all f = true then .nx else .rt (.bl false)) (st ++ ex)) : Rn (bk3 L0 (tb k) [some (.ref b), o1, o2, o3]) st QS := by
  unfold bk3
  refine lock_run (n := b) (kvs := kvs) rfl hb ?_
  have nl : b < st.length := (List.getElem?_eq_some_iff.mp hb).1
  have hd : (st.set b (.dif kvs))[b]? = some (.dif kvs) := List.getElem?_set_self nl
  simp [run_valsS, run_difAt hd]
  refine run_for (ds := kvs.map fun q => q.2) (fun i es s => (∃ o1 o2 o3, es = [some (.ref b), o1, o2, o3]) ∧ (∃ ex, s = st.set b (.dif kvs) ++ ex) ∧ ∀ x ∈ (kvs.map fun q => q.2).take i, f x = true) (fun _ _ _ _ => rfl) ?_ ?_ _ _ _ _ ?_ ?_ ?_
  · rintro i d es s hd ⟨⟨o1, o2, o3, rfl⟩, ⟨ex, rfl⟩, ht⟩
    obtain ⟨q, hq, rfl⟩ : ∃ q ∈ kvs, q.2 = d := by
      obtain ⟨q, hq, e⟩ := List.mem_map.mp (List.mem_of_getElem? hd)
      exact ⟨q, hq, e⟩
    simp
    refine (hf q hq ex o2 o3).mono fun p s ⟨⟨ex2, e⟩, o2', o3', e2⟩ => ?_
    subst e e2
    cases hB : f q.2 with
    | true =>
      refine ⟨⟨_, _, _, rfl⟩, ⟨ex ++ ex2, by simp⟩, ?_⟩
      intro x hx
      rw [List.take_add_one, hd] at hx
      rcases List.mem_append.mp hx with hx | hx
      · exact ht x hx
      · have : x = q.2 := by simpa using hx
        rw [this]
        exact hB
    | false =>
      refine ⟨ex ++ ex2, by simp, ?_⟩
      have hA : (kvs.map fun q => q.2).all f = false := by
        rw [List.all_eq_false]
        exact ⟨q.2, List.mem_of_getElem? hd, by simp [hB]⟩
      have := h (some q.2) o2' o3' (ex ++ ex2)
      rw [hA] at this
      exact this
  · rintro es s ⟨⟨o1, o2, o3, rfl⟩, ⟨ex, rfl⟩, ht⟩
    refine ⟨ex, rfl, ?_⟩
    rw [List.take_length] at ht
    have := h o1 o2 o3 ex
    rw [List.all_eq_true.mpr ht] at this
    exact this
  · exact lt0 (by simpa using (by omega : kvs.length ≤ 1000))
  · exact Nat.zero_le _
  · exact ⟨⟨_, _, _, rfl⟩, ⟨[], by simp⟩, by simp⟩
/-- is_book, up to the counts of tests and points -/
theorem is_book_core (k b : Nat) (st : S) (kvs : List (Key × D)) (f g : D → Bool) (hb : st[b]? = some (.dic kvs)) (hl : kvs.length ≤ 8) (h1 : 1 ≤ kvs.length) (hf : ∀ q ∈ kvs, Gv (tb k .Fis_type_name [kD q.1]) (.bl (f (kD q.1)))) (hg : (kvs.map fun q => kD q.1).all f = true → ∀ q ∈ kvs, VB k b (st.set b (.dif kvs)) q.2 (g q.2)) (Q : D → S → Prop)
    (h0 : ((kvs.map fun q => kD q.1).all f && (kvs.map fun q => q.2).all g) = false → ∀ ex, Q (.bl false) (st ++ ex))
    (h2 : (kvs.map fun q => kD q.1).all f = true → (kvs.map fun q => q.2).all g = true → ∀ o1 o2 o3 ex, Rn (bk4 L0 (tb k) [some (.ref b), o1, o2, o3]) (st ++ ex) fun p s => match p.2 with
      | .rt d => Q d s
      | .nx => Q .non s
      | _ => False) : Rn (tb (k + 1) .Fis_book [.ref b]) st Q := by
  have i1 : (1 : Int) ≤ (kvs.length : Int) := by omega
  have i2 : (kvs.length : Int) ≤ 8 := by omega
  rw [t_b_is_book, b_is_book_cut]
  simp [bk1, isD_dic hb, run_lenC hb, i1, i2]
  refine bk2_run k b st kvs f hb hl hf _ _ _ _ fun ex => ?_
  cases hA : (kvs.map fun q => kD q.1).all f with
  | false =>
    have := h0 (by rw [hA]; rfl) ex
    simpa using this
  | true =>
    simp
    have hb' : (st ++ ex)[b]? = some (.dic kvs) := ga hb
    have nl : b < st.length := (List.getElem?_eq_some_iff.mp hb).1
    have e1 : (st ++ ex).set b (.dif kvs) = st.set b (.dif kvs) ++ ex := List.set_append_left _ _ nl
    refine bk3_run k b (st ++ ex) kvs g hb' hl (fun q hq => ?_) _ _ _ _ fun o1 o2 o3 ex2 => ?_
    · rw [e1]
      intro ex2 o2 o3
      have := hg hA q hq (ex ++ ex2) o2 o3
      rw [← List.append_assoc] at this
      exact this
    · cases hB : (kvs.map fun q => q.2).all g with
      | false =>
        have := h0 (by rw [hB, hA]; rfl) (ex ++ ex2)
        rw [← List.append_assoc] at this
        exact this
      | true =>
        have := h2 hA hB o1 o2 o3 (ex ++ ex2)
        rw [← List.append_assoc] at this
        exact this
end K37


namespace K37
open PySem Mx
open L2 (Key)
open PyProof.Rows PySem.SeqAt
theorem nodup_len {α : Type} [DecidableEq α] : ∀ {l m : List α}, l.Nodup → (∀ x ∈ l, x ∈ m) → l.length ≤ m.length
  | [], _, _, _ => Nat.zero_le _
  | x :: l, m, h, s => by
    have hx := s x (List.mem_cons_self ..)
    have h2 := List.nodup_cons.mp h
    have := nodup_len (l := l) (m := m.erase x) h2.2 fun y hy => (List.mem_erase_of_ne (a := y) (b := x) fun e => h2.1 (by rw [← e]; exact hy)).mpr (s y (List.mem_cons_of_mem _ hy))
    rw [List.length_erase_of_mem hx] at this
    have := List.length_pos_of_mem hx
    simp
    omega
def GoodS (KS : List NestedKey) : Prop := ∀ k ∈ KS, isTupK k = true ∧ k.depth ≤ 8 ∧ ∀ k' ∈ KS, okK k k' = true
theorem nkDs_of {KS : List NestedKey} : ∀ {ds : List D}, (∀ d ∈ ds, ∃ k ∈ KS, nkD d = some k) → ∃ ks, nkDs ds = some ks ∧ (∀ k ∈ ks, k ∈ KS) ∧ ks.length = ds.length
  | [], _ => ⟨[], rfl, fun _ h => absurd h List.not_mem_nil, rfl⟩
  | d :: ds, h => by
    obtain ⟨k, h1, h2⟩ := h d (List.mem_cons_self ..)
    obtain ⟨ks, h3, h4, h5⟩ := nkDs_of fun x hx => h x (List.mem_cons_of_mem _ hx)
    refine ⟨k :: ks, by unfold nkDs; rw [h2, h3], fun x hx => ?_, by simp [h5]⟩
    rcases List.mem_cons.mp hx with rfl | hx
    · exact h1
    · exact h4 x hx
theorem nset_ok {KS : List NestedKey} (g : GoodS KS) {ds : List D} (hl : ds.length < 64) (h : ∀ d ∈ ds, ∃ k ∈ KS, nkD d = some k) : ∃ ks, nkDs ds = some ks ∧ goodB ks = true ∧ (sortI ks).length ≤ KS.length := by
  obtain ⟨ks, h1, h2, h3⟩ := nkDs_of h
  refine ⟨ks, h1, ?_, ?_⟩
  · unfold goodB
    rw [Bool.and_eq_true, decide_eq_true_eq, List.all_eq_true]
    refine ⟨by omega, fun k hk => ?_⟩
    obtain ⟨q1, q2, q3⟩ := g k (h2 k hk)
    rw [Bool.and_eq_true, Bool.and_eq_true, decide_eq_true_eq, List.all_eq_true]
    exact ⟨⟨q1, q2⟩, fun k' hk' => q3 k' (h2 k' hk')⟩
  · unfold sortI
    rw [List.length_map, (isort_perm _).length_eq]
    exact nodup_len (dedupN_nodup ks) fun x hx => h2 x (mem_dedupN.mp hx)
/-- keys of tests -/
def TK (k : NestedKey) : Prop := ∃ s v, k = .tup [.text s, v] ∧ ((∃ a t, v = .tup [.text "number", .num a, .num t]) ∨ ∃ l : List Int, v = .tup [.text "string", .tup (l.map .num)])
theorem nkDs_ints : ∀ l : List Int, nkDs (l.map .int) = some (l.map .num)
  | [] => rfl
  | i :: l => by
    rw [List.map_cons, nkDs, nkDs_ints l]
    rfl
theorem test_key {t : D} {kd : Str} (h : TestD t kd) : ∃ k, nkD t = some k ∧ TK k := by
  obtain ⟨s, v, _, hs, hv⟩ := h
  cases hv with
  | num a t h => exact ⟨_, rfl, s, _, rfl, .inl ⟨a, t, rfl⟩⟩
  | str l h =>
    refine ⟨.tup [.text s, .tup [.text "string", .tup (l.map .num)]], ?_, s, _, rfl, .inr ⟨l, rfl⟩⟩
    unfold StrV
    simp [nkD, nkDs, nkDs_ints]
theorem okKs_nums : ∀ l m : List Int, okKs (l.map .num) (m.map .num) = true
  | [], _ => rfl
  | _ :: _, [] => rfl
  | i :: l, j :: m => by
    rw [List.map_cons, List.map_cons, okKs]
    split
    · exact okKs_nums l m
    · rfl
theorem depth_nums : ∀ l : List Int, NestedKey.depthAll (l.map .num) ≤ 1
  | [] => by simp [NestedKey.depthAll]
  | i :: l => by
    have := depth_nums l
    simp [NestedKey.depthAll, NestedKey.depth]
    omega
theorem ns_ne : NestedKey.beq (.text "number") (.text "string") = false := by decide +kernel
theorem sn_ne : NestedKey.beq (.text "string") (.text "number") = false := by decide +kernel
theorem tk_ok {k k' : NestedKey} (h : TK k) (h' : TK k') : okK k k' = true := by
  obtain ⟨s, v, rfl, hv⟩ := h
  obtain ⟨s', v', rfl, hv'⟩ := h'
  have ov : okK v v' = true := by
    rcases hv with ⟨a, t, rfl⟩ | ⟨l, rfl⟩
    · rcases hv' with ⟨a', t', rfl⟩ | ⟨l', rfl⟩
      · rw [okK, okKs]
        split
        · rw [okKs]
          split
          · rw [okKs]
            split <;> rfl
          · rfl
        · rfl
      · rw [okK, okKs, if_neg (by rw [ns_ne]; decide)]
        rfl
    · rcases hv' with ⟨a', t', rfl⟩ | ⟨l', rfl⟩
      · rw [okK, okKs, if_neg (by rw [sn_ne]; decide)]
        rfl
      · rw [okK, okKs]
        split
        · rw [okKs]
          split
          · rfl
          · rw [okK]
            exact okKs_nums l l'
        · rfl
  rw [okK, okKs]
  split
  · rw [okKs]
    split
    · rfl
    · exact ov
  · rfl
theorem tk_good {k : NestedKey} (h : TK k) : isTupK k = true ∧ k.depth ≤ 8 := by
  obtain ⟨s, v, rfl, hv⟩ := h
  refine ⟨rfl, ?_⟩
  rcases hv with ⟨a, t, rfl⟩ | ⟨l, rfl⟩
  · simp [NestedKey.depth, NestedKey.depthAll]
  · have := depth_nums l
    simp [NestedKey.depth, NestedKey.depthAll]
    omega
/-- the keys of a list of tests -/
theorem tests_keys : ∀ {TS : List D}, (∀ t ∈ TS, ∃ kd, TestD t kd) → ∃ KS : List NestedKey, KS.length = TS.length ∧ (∀ k ∈ KS, TK k) ∧ ∀ t ∈ TS, ∃ k ∈ KS, nkD t = some k
  | [], _ => ⟨[], rfl, fun _ h => absurd h List.not_mem_nil, fun _ h => absurd h List.not_mem_nil⟩
  | t :: TS, h => by
    obtain ⟨kd, ht⟩ := h t (List.mem_cons_self ..)
    obtain ⟨k, h1, h2⟩ := test_key ht
    obtain ⟨KS, h3, h4, h5⟩ := tests_keys fun x hx => h x (List.mem_cons_of_mem _ hx)
    refine ⟨k :: KS, by simp [h3], fun x hx => ?_, fun x hx => ?_⟩
    · rcases List.mem_cons.mp hx with rfl | hx
      · exact h2
      · exact h4 x hx
    · rcases List.mem_cons.mp hx with rfl | hx
      · exact ⟨k, List.mem_cons_self .., h1⟩
      · obtain ⟨k', a, b⟩ := h5 x hx
        exact ⟨k', List.mem_cons_of_mem _ a, b⟩
theorem good_tests {KS : List NestedKey} (h : ∀ k ∈ KS, TK k) : GoodS KS := fun k hk => ⟨(tk_good (h k hk)).1, (tk_good (h k hk)).2, fun k' hk' => tk_ok (h k hk) (h k' hk')⟩
def sixK : List NestedKey := six.map fun l => .tup (l.map .num)
theorem good_six : GoodS sixK := fun k hk => by
  obtain ⟨l, _, rfl⟩ := List.mem_map.mp hk
  refine ⟨rfl, ?_, fun k' hk' => ?_⟩
  · have := depth_nums l
    simp [NestedKey.depth]
    omega
  · obtain ⟨l', _, rfl⟩ := List.mem_map.mp hk'
    rw [okK]
    exact okKs_nums l l'
theorem six_key {l : List Int} (h : l ∈ six) : ∃ k ∈ sixK, nkD (.tup (l.map .int)) = some k := ⟨.tup (l.map .num), List.mem_map.mpr ⟨l, h, rfl⟩, by rw [nkD, nkDs_ints]; rfl⟩
end K37


namespace K37
open PySem Mx
open L2 (Key)
structure GBk (bk : List (Str × D)) (TS : List D) : Prop where
  ns : Ns (bk.map (·.1))
  vals : ∀ p ∈ bk, ∃ cs : List D, p.2 = .tup cs ∧ cs.length ≤ 3 ∧ ∀ c ∈ cs, GoodCase (bk.map (·.1)) TS c
  ts : ∀ t ∈ TS, ∃ kd, TestD t kd
  tl : TS.length ≤ 4
theorem strKs_kvB : ∀ bk : List (Str × D), strKs (kvB bk) = some (bk.map (·.1))
  | [] => rfl
  | p :: bk => by
    have := strKs_kvB bk
    unfold kvB at this ⊢
    rw [List.map_cons, strKs, this]
    rfl
theorem look_kvB : ∀ {bk : List (Str × D)} {x : Str}, x ∈ bk.map (·.1) → ∃ p ∈ bk, look (kvB bk) (.inr x) = some p.2
  | p :: bk, x, h => by
    unfold kvB
    rw [List.map_cons]
    unfold look
    by_cases e : p.1 = x
    · subst e
      exact ⟨p, List.mem_cons_self .., if_pos rfl⟩
    · rw [if_neg fun z => e (Sum.inr.inj z)]
      rw [List.map_cons, List.mem_cons] at h
      obtain ⟨q, h1, h2⟩ := look_kvB (bk := bk) (x := x) (h.resolve_left fun z => e z.symm)
      exact ⟨q, List.mem_cons_of_mem _ h1, h2⟩
theorem run_ixC {st : S} {Q : D → S → Prop} {n : Nat} {z : Str} {kvs : List (Key × D)} (h : st[n]? = some (.dic kvs)) : Rn (ixD (.ref n) (.str z)) st Q = Rn (ofO (look kvs (.inr z))) st Q := run_ixS h
theorem run_iaddR {st : S} {Q : D → S → Prop} {n m : Nat} {xs ys : List D} (h : st[n]? = some (.lst xs)) (h2 : st[m]? = some (.lst ys)) (hl : xs.length + ys.length ≤ 1000) : Rn (iaddD (.ref n) (.ref m)) st Q = Q (.ref n) (st.set n (.lst (xs ++ ys))) := by
  show Rn (lstAt n >>= _) st Q = _
  rw [run_bind, run_some (lstAt_of h)]
  show Rn (lstAt m >>= _) st Q = _
  rw [run_bind, run_some (lstAt_of h2)]
  show Rn (guardM _ >>= _) st Q = _
  rw [run_bind, run_guard, decide_eq_true_eq]
  simp only [sz hl, true_and]
  rfl
theorem isort_mem {x : Str} {l : List Str} : x ∈ isort leS l ↔ x ∈ l := (isort_perm l).mem_iff
/-- (name, case) of a book, some order -/
structure Pairs9 (bk : List (Str × D)) (TS : List D) (ps : List D) : Prop where
  len : ps.length ≤ 9
  each : ∀ p ∈ ps, ∃ x c, p = .tup [.str x, c] ∧ GoodCase (bk.map (·.1)) TS c
def CIn (st : S) (b : Nat) (bk : List (Str × D)) (TS : List D) (srt : List Str) (i : Nat) (es : Es) (s : S) : Prop := ∃ o2 o3 ps ex, es = [some (.ref b), some (.ref st.length), o2, o3] ∧ s = st ++ (.lst ps :: .lst (srt.map .str) :: ex) ∧ ps.length ≤ 3 * i ∧ ∀ p ∈ ps, ∃ x c, p = .tup [.str x, c] ∧ GoodCase (bk.map (·.1)) TS c
theorem cases_in_ok (k b : Nat) (st : S) {bk : List (Str × D)} {TS : List D} (g : GBk bk TS) (hb : st[b]? = some (.dic (kvB bk))) : Rn (tb (k + 1) .Fcases_in [.ref b]) st fun d s => ∃ ps ex, d = .ref st.length ∧ s = st ++ (.lst ps :: ex) ∧ Pairs9 bk TS ps := by
  rw [t_b_cases_in]
  have hb0 : ∀ ex, kvsOf (st ++ ex)[b]? = some (kvB bk) := fun ex => by rw [ga hb]; rfl
  have hz : (bk.map (·.1)).length < 64 := by have := g.ns.le; omega
  simp [b_cases_in, sz]
  rw [run_sdicI (hb0 _) (strKs_kvB bk) hz]
  generalize hso : isort leS (bk.map (·.1)) = srt
  have hsl : srt.length ≤ 3 := by
    rw [← hso, (isort_perm _).length_eq]
    exact g.ns.le
  have hsm : ∀ x ∈ srt, x ∈ bk.map (·.1) := fun x hx => by
    rw [← hso] at hx
    exact isort_mem.mp hx
  have e1 : st ++ [O.lst []] ++ [O.lst (srt.map .str)] = st ++ (.lst [] :: .lst (srt.map .str) :: []) := by simp
  have e2 : (st ++ [O.lst []]).length = st.length + 1 := by simp
  rw [e1, e2]
  have g1 : ∀ (a : O) (o : O) (ex : S), (st ++ (a :: o :: ex))[st.length + 1]? = some o := fun a o ex => by
    rw [List.getElem?_append_right (by omega)]
    simp
  rw [run_live (g1 _ _ _)]
  refine run_for (ds := srt.map .str) (CIn st b bk TS srt) (fun i es s ⟨o2, o3, ps, ex, e1, e2, _⟩ => live_at (by rw [e2]; exact g1 _ _ _)) ?_ ?_ _ _ _ _ ?_ ?_ ?_
  · rintro i d es s hd ⟨o2, o3, ps, ex, rfl, rfl, hp, hq⟩
    obtain ⟨x, hx, rfl⟩ : ∃ x ∈ srt, D.str x = d := by
      obtain ⟨x, hx, e⟩ := List.mem_map.mp (List.mem_of_getElem? hd)
      exact ⟨x, hx, e⟩
    have hi : i < 3 := by
      have := (List.getElem?_eq_some_iff.mp hd).1
      simp at this
      omega
    obtain ⟨q, hq1, hq2⟩ := look_kvB (hsm x hx)
    obtain ⟨cs, hc1, hc2, hc3⟩ := g.vals q hq1
    simp
    rw [run_ixC (ga hb), hq2]
    simp [hc1]
    refine lcmap (fun c => .tup [.str x, c]) (by omega) (fun _ _ => rfl) ?_ fun ex2 => ?_
    · rintro c hc ex2
      simp [wipeE, sz]
    · rw [run_iaddR (xs := ps) (ys := cs.map fun c => .tup [.str x, c]) (by simp) gn (by simp; omega)]
      rw [show st ++ (O.lst ps :: O.lst (srt.map .str) :: ex) ++ ex2 ++ [O.lst (cs.map fun c => .tup [.str x, c])] = st ++ (O.lst ps :: O.lst (srt.map .str) :: (ex ++ ex2 ++ [O.lst (cs.map fun c => .tup [.str x, c])])) by simp, set_mid]
      refine ⟨_, _, _, _, rfl, rfl, ?_, fun p hp2 => ?_⟩
      · simp
        omega
      · rcases List.mem_append.mp hp2 with h | h
        · exact hq p h
        · obtain ⟨c, hc, rfl⟩ := List.mem_map.mp h
          exact ⟨x, c, rfl, hc3 c hc⟩
  · rintro es s ⟨o2, o3, ps, ex, rfl, rfl, hp, hq⟩
    simp at hp
    simp
    exact ⟨by omega, hq⟩
  · exact lt0 (by simpa using (by omega : srt.length ≤ 1000))
  · exact Nat.zero_le _
  · exact ⟨none, none, [], [], rfl, rfl, by simp, fun p h => absurd h List.not_mem_nil⟩
end K37


namespace K37
open PySem Mx
open L2 (Key)
theorem get_j {st ex : S} {a : O} {j : Nat} : (st ++ (a :: ex))[st.length + 1 + j]? = ex[j]? := by
  rw [List.getElem?_append_right (by omega), show st.length + 1 + j - st.length = j + 1 by omega]
  rfl
theorem run_tupI {st : S} {Q : D → S → Prop} {xs : List D} : Rn (on1 tupleD [.ref st.length]) (st ++ [.lst xs]) Q = Q (.tup xs) (st ++ [.lst xs]) := run_tupR gn
def TIn (st : S) (b j : Nat) (ps TS : List D) (i : Nat) (es : Es) (s : S) : Prop := ∃ o2 o3 fs ex, es = [some (.ref b), some (.ref st.length), o2, o3] ∧ s = st ++ (.lst fs :: ex) ∧ ex[j]? = some (.lst ps) ∧ fs.length ≤ 2 * i ∧ ∀ t ∈ fs, t ∈ TS
theorem tests_in_ok (k b : Nat) (st : S) {bk : List (Str × D)} {TS : List D} (g : GBk bk TS) (hb : st[b]? = some (.dic (kvB bk))) : Rn (tb (k + 2) .Ftests_in [.ref b]) st fun d s => ∃ ds ex, d = .tup ds ∧ ds.length ≤ 4 ∧ s = st ++ ex := by
  rw [t_b_tests_in]
  simp [b_tests_in, sz]
  refine (cases_in_ok k b (st ++ [.lst []]) g (ga hb)).mono fun d s ⟨ps, ex, e1, e2, hp⟩ => ?_
  subst e1 e2
  have el : (st ++ [O.lst []]).length = st.length + 1 + 0 := by simp
  rw [el, show st ++ [O.lst []] ++ (O.lst ps :: ex) = st ++ (.lst [] :: (.lst ps :: ex)) by simp]
  rw [run_live (get_j (j := 0))]
  refine run_for (ds := ps) (TIn st b 0 ps TS) (fun i es s ⟨o2, o3, fs, ex, e1, e2, e3, _⟩ => live_at (by rw [e2, get_j, e3])) ?_ ?_ _ _ _ _ ?_ ?_ ?_
  · rintro i d es s hd ⟨o2, o3, fs, ex, rfl, rfl, hj, hl, hm⟩
    have hi : i < 9 := by
      have := (List.getElem?_eq_some_iff.mp hd).1
      have := hp.len
      omega
    obtain ⟨x, c, rfl, hc⟩ := hp.each _ (List.mem_of_getElem? hd)
    simp
    have fin : ∀ (c : D) (ys : List D), ys.length ≤ 2 → (∀ t ∈ ys, t ∈ TS) → TIn st b 0 ps TS (i + 1) [some (.ref b), some (.ref st.length), some (.str x), some c] (st ++ (.lst (fs ++ ys) :: (ex ++ [.lst ys]))) := fun c ys hy ht => by
      refine ⟨_, _, _, _, rfl, rfl, ga hj, by simp; omega, fun t h => ?_⟩
      rcases List.mem_append.mp h with h | h
      · exact hm t h
      · exact ht t h
    have setE : ∀ ys : List D, (st ++ (O.lst fs :: ex) ++ [O.lst ys]).set st.length (.lst (fs ++ ys)) = st ++ (.lst (fs ++ ys) :: (ex ++ [.lst ys])) := fun ys => by
      rw [show st ++ (O.lst fs :: ex) ++ [O.lst ys] = st ++ (O.lst fs :: (ex ++ [O.lst ys])) by simp, set_mid]
    have done : ∀ (ys : List D), ys.length ≤ 2 → (st ++ (O.lst fs :: ex) ++ [O.lst ys])[st.length]? = some (.lst fs) := fun ys _ => by simp
    cases hc with
    | tests kd ts hk hl2 ht =>
      rcases hk with rfl | rfl
      all_goals
        simp [-List.length_append, -List.length_cons, len0, len1, len2, len3, len4, sz, run_listE_tup]
        rw [run_iaddR (xs := fs) (ys := ts) (done ts hl2) gn (by omega), setE]
        exact fin _ ts hl2 fun t h => (ht t h).1
    | word w h =>
      rcases h with rfl | rfl | rfl
      all_goals
        simp [-List.length_append, -List.length_cons, len0, len1, len2, len3, len4, sz]
        rw [run_iaddR (xs := fs) (ys := []) (done [] (by decide)) gn (by simp; omega), setE]
        exact fin _ [] (by decide) fun t h => absurd h List.not_mem_nil
    | arr p hd hi2 =>
      simp [-List.length_append, -List.length_cons, len0, len1, len2, len3, len4, sz]
      rw [run_iaddR (xs := fs) (ys := []) (done [] (by decide)) gn (by simp; omega), setE]
      exact fin _ [] (by decide) fun t h => absurd h List.not_mem_nil
    | obj ms r hl2 h hnd h6 hr =>
      simp [-List.length_append, -List.length_cons, len0, len1, len2, len3, len4, sz]
      rw [run_iaddR (xs := fs) (ys := []) (done [] (by decide)) gn (by simp; omega), setE]
      exact fin _ [] (by decide) fun t h => absurd h List.not_mem_nil
  · rintro es s ⟨o2, o3, fs, ex, rfl, rfl, hj, hl, hm⟩
    obtain ⟨KS, k1, k2, k3⟩ := tests_keys g.ts
    have h9 := hp.len
    obtain ⟨ks, q1, q2, q3⟩ := nset_ok (good_tests k2) (ds := fs) (by omega) fun d hd => k3 d (hm d hd)
    simp [-List.length_append, -List.length_cons, len0, len1, len2, len3, len4]
    rw [run_lstAt get_mid]
    simp [-List.length_append, -List.length_cons, len0, len1, len2, len3, len4, q1, q2, run_tupI]
    exact Nat.le_trans q3 (by rw [k1]; exact g.tl)
  · exact lt0 (by have := hp.len; omega)
  · exact Nat.zero_le _
  · exact ⟨none, none, [], _, rfl, rfl, rfl, by simp, fun t h => absurd h List.not_mem_nil⟩
def PIn (st : S) (b j : Nat) (ps : List D) (i : Nat) (es : Es) (s : S) : Prop := ∃ o2 o3 o4 fs ex, es = [some (.ref b), some (.ref st.length), o2, o3, o4] ∧ s = st ++ (.lst fs :: ex) ∧ ex[j]? = some (.lst ps) ∧ fs.length ≤ 3 * i ∧ ∀ t ∈ fs, ∃ l ∈ six, t = .tup (l.map .int)
theorem points_in_ok (k b : Nat) (st : S) {bk : List (Str × D)} {TS : List D} (g : GBk bk TS) (hb : st[b]? = some (.dic (kvB bk))) : Rn (tb (k + 2) .Fpoints_in [.ref b]) st fun d s => ∃ ds ex, d = .tup ds ∧ ds.length ≤ 6 ∧ s = st ++ ex := by
  rw [t_b_points_in]
  simp [b_points_in, sz]
  refine (cases_in_ok k b (st ++ [.lst []]) g (ga hb)).mono fun d s ⟨ps, ex, e1, e2, hp⟩ => ?_
  subst e1 e2
  have el : (st ++ [O.lst []]).length = st.length + 1 + 0 := by simp
  rw [el, show st ++ [O.lst []] ++ (O.lst ps :: ex) = st ++ (.lst [] :: (.lst ps :: ex)) by simp]
  rw [run_live (get_j (j := 0))]
  refine run_for (ds := ps) (PIn st b 0 ps) (fun i es s ⟨o2, o3, o4, fs, ex, e1, e2, e3, _⟩ => live_at (by rw [e2, get_j, e3])) ?_ ?_ _ _ _ _ ?_ ?_ ?_
  · rintro i d es s hd ⟨o2, o3, o4, fs, ex, rfl, rfl, hj, hl, hm⟩
    have hi : i < 9 := by
      have := (List.getElem?_eq_some_iff.mp hd).1
      have := hp.len
      omega
    obtain ⟨x, c, rfl, hc⟩ := hp.each _ (List.mem_of_getElem? hd)
    simp
    have fin : ∀ (c : D) (ys : List D) (ex2 : S), ys.length ≤ 3 → (∀ t ∈ ys, ∃ l ∈ six, t = D.tup (l.map .int)) → PIn st b 0 ps (i + 1) [some (.ref b), some (.ref st.length), some (.str x), some c, o4] (st ++ (.lst (fs ++ ys) :: (ex ++ ex2 ++ [.lst ys]))) := fun c ys ex2 hy ht => by
      refine ⟨_, _, _, _, _, rfl, rfl, ga (ga hj), by simp; omega, fun t h => ?_⟩
      rcases List.mem_append.mp h with h | h
      · exact hm t h
      · exact ht t h
    have setE : ∀ (ys : List D) (ex2 : S), (st ++ (O.lst fs :: ex) ++ ex2 ++ [O.lst ys]).set st.length (.lst (fs ++ ys)) = st ++ (.lst (fs ++ ys) :: (ex ++ ex2 ++ [.lst ys])) := fun ys ex2 => by
      rw [show st ++ (O.lst fs :: ex) ++ ex2 ++ [O.lst ys] = st ++ (O.lst fs :: (ex ++ ex2 ++ [O.lst ys])) by simp, set_mid]
    have done : ∀ (ys : List D) (ex2 : S), (st ++ (O.lst fs :: ex) ++ ex2 ++ [O.lst ys])[st.length]? = some (.lst fs) := fun ys _ => by simp
    have nonE : Rn (iaddD (.ref st.length) (.ref (st ++ (O.lst fs :: ex)).length)) (st ++ (O.lst fs :: ex) ++ [O.lst []]) fun z s => z = .ref st.length ∧ ∀ c : D, PIn st b 0 ps (i + 1) [some (.ref b), some (.ref st.length), some (.str x), some c, o4] s := by
      have d1 := done [] []
      have d2 := setE [] []
      rw [List.append_nil] at d1 d2
      rw [run_iaddR (xs := fs) (ys := []) d1 gn (by simp; omega), d2]
      exact ⟨rfl, fun c => fin c [] [] (by decide) fun t h => absurd h List.not_mem_nil⟩
    cases hc with
    | tests kd ts hk hl2 ht =>
      rcases hk with rfl | rfl
      all_goals
        simp [-List.length_append, -List.length_cons, len0, len1, len2, len3, len4, sz]
        refine nonE.mono fun z s ⟨e, q⟩ => ?_
        subst e
        exact q _
    | word w h =>
      rcases h with rfl | rfl | rfl
      all_goals
        simp [-List.length_append, -List.length_cons, len0, len1, len2, len3, len4, sz]
        refine nonE.mono fun z s ⟨e, q⟩ => ?_
        subst e
        exact q _
    | arr p hd hi2 =>
      simp [-List.length_append, -List.length_cons, len0, len1, len2, len3, len4, sz]
      refine nonE.mono fun z s ⟨e, q⟩ => ?_
      subst e
      exact q _
    | obj ms r hl2 h hnd h6 hr =>
      simp [-List.length_append, -List.length_cons, len0, len1, len2, len3, len4, sz]
      refine lcmap (fun c => match c with | .tup (p :: _) => p | _ => .non) (by simp; omega) (fun _ _ => rfl) ?_ fun ex2 => ?_
      · rintro d hd ex2
        obtain ⟨m, hm, rfl⟩ := List.mem_map.mp hd
        simp [wipeE, Mb.d]
      · rw [run_iaddR (xs := fs) (ys := (ms.map Mb.d).map fun c => match c with | .tup (p :: _) => p | _ => .non) (done _ _) gn (by simp; omega), setE]
        refine fin _ _ _ (by simpa using hl2) fun t ht => ?_
        obtain ⟨d, hd, rfl⟩ := List.mem_map.mp ht
        obtain ⟨m, hm, rfl⟩ := List.mem_map.mp hd
        exact ⟨m.1, h6 m hm, rfl⟩
  · rintro es s ⟨o2, o3, o4, fs, ex, rfl, rfl, hj, hl, hm⟩
    have h9 := hp.len
    obtain ⟨ks, q1, q2, q3⟩ := nset_ok good_six (ds := fs) (by omega) fun d hd => by
      obtain ⟨l, hl, rfl⟩ := hm d hd
      exact six_key hl
    simp [-List.length_append, -List.length_cons, len0, len1, len2, len3, len4]
    rw [run_lstAt get_mid]
    simp [-List.length_append, -List.length_cons, len0, len1, len2, len3, len4, q1, q2, run_tupI]
    exact q3
  · exact lt0 (by have := hp.len; omega)
  · exact Nat.zero_le _
  · exact ⟨none, none, none, [], _, rfl, rfl, rfl, by simp, fun t h => absurd h List.not_mem_nil⟩
end K37


namespace K37
open PySem Mx
open L2 (Key)
def nameD : D → Bool
  | .str x => nameB x
  | _ => false
theorem kD_str (x : Str) : kD (.inr x) = .str x := rfl
theorem is_book_true (k b : Nat) (st : S) {bk : List (Str × D)} {TS : List D} (g : GBk bk TS) (hb : st[b]? = some (.dic (kvB bk))) : Rn (tb (k + 23) .Fis_book [.ref b]) st fun d s => d = .bl true ∧ ∃ ex, s = st ++ ex := by
  have hlen : (kvB bk).length = bk.length := by unfold kvB; rw [List.length_map]
  have l1 := g.ns.pos
  have l2 := g.ns.le
  rw [List.length_map] at l1 l2
  have nl : b < st.length := (List.getElem?_eq_some_iff.mp hb).1
  have hd : (st.set b (.dif (kvB bk)))[b]? = some (.dif (kvB bk)) := List.getElem?_set_self nl
  have hN : Nms (st.set b (.dif (kvB bk))) b (bk.map (·.1)) := nms_of (by rw [hd]; rfl)
  have names : ((kvB bk).map fun q => kD q.1).all nameD = true := by
    rw [List.all_eq_true]
    intro d hd
    obtain ⟨q, hq, rfl⟩ := List.mem_map.mp hd
    obtain ⟨p, hp, rfl⟩ := List.mem_map.mp hq
    exact (eight_ok p.1 (g.ns.sub _ (List.mem_map.mpr ⟨p, hp, rfl⟩))).2.1
  refine is_book_core (k + 22) b st (kvB bk) nameD (fun _ => true) hb (by omega) (by omega) (fun q hq => ?_) (fun _ q hq => ?_) _ ?_ ?_
  · obtain ⟨p, hp, rfl⟩ := List.mem_map.mp hq
    exact is_type_name_ok (k + 21) p.1 (eight_ok p.1 (g.ns.sub _ (List.mem_map.mpr ⟨p, hp, rfl⟩))).2.2
  · obtain ⟨p, hp, rfl⟩ := List.mem_map.mp hq
    obtain ⟨cs, h1, h2, h3⟩ := g.vals p hp
    have := vb_tup (k + 22) b (st.set b (.dif (kvB bk))) cs (fun _ => true) (by omega) fun c hc ex => is_case_ok k b g.ns (h3 c hc) _ (hN.app ex)
    rw [show cs.all (fun _ => true) = true by simp] at this
    rw [h1]
    exact this
  · rw [names]
    simp
  · intro _ _ o1 o2 o3 ex
    unfold bk4
    simp
    refine (tests_in_ok (k + 20) b (st ++ ex) g (ga hb)).mono fun d s ⟨ds, ex2, e1, e2, e3⟩ => ?_
    subst e1 e3
    have h6 : (ds.length : Int) ≤ 6 := by omega
    simp [h6]
    refine (points_in_ok (k + 20) b (st ++ ex ++ ex2) g (ga (ga hb))).mono fun d s ⟨ds2, ex3, e1, e3, e4⟩ => ?_
    subst e1 e4
    have h6 : (ds2.length : Int) ≤ 6 := by omega
    simp [h6]
/-! ### bad cases -/
section
variable {st : S} {Q : D → S → Prop}
theorem nobody_ok : PyData.strOk "nobody" = true := by decide +kernel
theorem nobody_not {NM : List Str} (h : Ns NM) : ("nobody" : Str) ∉ NM := fun z => absurd (h.sub _ z) (by decide +kernel)
/-- is_case says no, from st on -/
def NoC (b : Nat) (st : S) (c : D) : Prop := ∀ k ex, Rn (tb (k + 22) .Fis_case [c, .ref b]) (st ++ ex) fun x s => x = .bl false ∧ ∃ ex2, s = st ++ ex ++ ex2
theorem py_s {x : Str} (h : PyData.strOk x = true) : Py 60 (.str x) := Py.str h
theorem tests_no (k : Nat) (t : D) (kd kd2 : Str) (h : TestD t kd) (hk : ∀ {st : S} {Q : D → S → Prop}, Rn (eqO (.str kd) (.str kd2)) st Q = Q (.bl false) st) : Gv (tb (k + 6) .Fare_tests_of [.tup [t], .str kd2]) (.bl false) := by
  refine gv_of fun st => ?_
  rw [t_b_are_tests_of]
  simp [b_are_tests_of, isT_tup, -run_lc]
  rw [run_lc]
  simp [-run_lc]
  refine lcmap (fun _ => .bl false) (by simp) (fun _ _ => rfl) ?_ fun ex => ?_
  · rintro d hd ex
    obtain rfl : d = t := by simpa using hd
    simp [wipeE]
    refine (is_test_ok k h).run fun ex2 => ?_
    obtain ⟨s, r, rfl⟩ := h.kind
    simp [hk]
  · simp [-List.length_append, all_new]
theorem no_1 (b : Nat) : NoC b st .non := fun k ex => by
  rw [t_b_is_case]
  simp [b_is_case, isT_non]
theorem no_2 (b : Nat) : NoC b st (.tup []) := fun k ex => by
  rw [t_b_is_case]
  simp [b_is_case, isT_tup, nil_nil, sz]
theorem no_3 (b : Nat) : NoC b st (.tup [.str "nulls"]) := fun k ex => by
  have e : ∀ {st : S} {Q : D → S → Prop}, Rn (eqO (.tup [.str "nulls"]) (.tup [])) st Q = Q (.bl false) st := tup_nil' (by simp; exact Py.str (by decide +kernel))
  rw [t_b_is_case]
  simp [b_is_case, isT_tup, isS_str, e, sz]
theorem no_4 (b : Nat) : NoC b st (.tup [.str "null", .int 1]) := fun k ex => by
  have e : ∀ {st : S} {Q : D → S → Prop}, Rn (eqO (.tup [.str "null", .int 1]) (.tup [])) st Q = Q (.bl false) st := tup_nil' (by simp; exact ⟨Py.str (by decide +kernel), Py.int⟩)
  rw [t_b_is_case]
  simp [b_is_case, isT_tup, isS_str, e, sz]
theorem no_5 (b : Nat) : NoC b st (.tup [.str "number"]) := fun k ex => by
  have e : ∀ {st : S} {Q : D → S → Prop}, Rn (eqO (.tup [.str "number"]) (.tup [])) st Q = Q (.bl false) st := tup_nil' (by simp; exact Py.str (by decide +kernel))
  rw [t_b_is_case]
  simp [b_is_case, isT_tup, isS_str, e, sz]
theorem no_9 (b : Nat) : NoC b st (.tup [.str "array"]) := fun k ex => by
  have e : ∀ {st : S} {Q : D → S → Prop}, Rn (eqO (.tup [.str "array"]) (.tup [])) st Q = Q (.bl false) st := tup_nil' (by simp; exact Py.str (by decide +kernel))
  rw [t_b_is_case]
  simp [b_is_case, isT_tup, isS_str, e, sz]
theorem no_18 (b : Nat) : NoC b st (.tup [.str "true", .tup []]) := fun k ex => by
  have e : ∀ {st : S} {Q : D → S → Prop}, Rn (eqO (.tup [.str "true", .tup []]) (.tup [])) st Q = Q (.bl false) st := tup_nil' (by simp; exact ⟨Py.str (by decide +kernel), Py.tup (by simp)⟩)
  rw [t_b_is_case]
  simp [b_is_case, isT_tup, isS_str, e, sz]
theorem no_17 (b : Nat) : NoC b st (.tup [.str "object", .tup [], .non, .non]) := fun k ex => by
  have e : ∀ {st : S} {Q : D → S → Prop}, Rn (eqO (.tup [.str "object", .tup [], .non, .non]) (.tup [])) st Q = Q (.bl false) st := tup_nil' (by simp; exact ⟨Py.str (by decide +kernel), Py.tup (by simp), Py.non⟩)
  rw [t_b_is_case]
  simp [b_is_case, isT_tup, isS_str, e, sz]
def lt1 (v : D) : D := .tup [.str "<", v]
theorem lt1_num : TestD (lt1 (NumV 1 0)) "number" := ⟨"<", _, _, by decide +kernel, .num 1 0 (.inl (by decide))⟩
theorem lt1_str : TestD (lt1 (StrV [])) "string" := ⟨"<", _, _, by decide +kernel, .str [] ⟨by decide, by simp⟩⟩
theorem no_7 (b : Nat) : NoC b st (.tup [.str "number", .tup [lt1 (StrV [])]]) := fun k ex => by
  have e : ∀ {st : S} {Q : D → S → Prop}, Rn (eqO (.tup [.str "number", .tup [lt1 (StrV [])]]) (.tup [])) st Q = Q (.bl false) st := tup_nil' (by
    simp
    exact ⟨Py.str (by decide +kernel), Py.tup (by simp; exact (Py.test lt1_str).mono (by decide))⟩)
  rw [t_b_is_case]
  simp [b_is_case, isT_tup, isS_str, e, sz]
  exact (tests_no (k + 15) _ _ _ lt1_str (by simp)).run fun ex => by simp
theorem no_8 (b : Nat) : NoC b st (.tup [.str "string", .tup [lt1 (NumV 1 0)]]) := fun k ex => by
  have e : ∀ {st : S} {Q : D → S → Prop}, Rn (eqO (.tup [.str "string", .tup [lt1 (NumV 1 0)]]) (.tup [])) st Q = Q (.bl false) st := tup_nil' (by
    simp
    exact ⟨Py.str (by decide +kernel), Py.tup (by simp; exact (Py.test lt1_num).mono (by decide))⟩)
  rw [t_b_is_case]
  simp [b_is_case, isT_tup, isS_str, e, sz]
  exact (tests_no (k + 15) _ _ _ lt1_num (by simp)).run fun ex => by simp
theorem toPy_lst {st : S} {n : Nat} {xs : List D} (h : st[n]? = some (.lst xs)) (hx : ∀ x ∈ xs, Py 60 x) : (toPy st 63 (.ref n)).isSome = true := by
  obtain ⟨ys, e, _⟩ := mapO_some (f := toPy st 62) (xs := xs) fun x q => (hx x q).up (by decide)
  unfold toPy
  rw [h]
  show (match mapO (toPy st 62) xs with | some ps => some (PyData.list ps) | none => none).isSome = true
  rw [e]
  rfl
theorem no_6 (b n : Nat) (h : st[n]? = some (.lst [lt1 (NumV 1 0)])) : NoC b st (.tup [.str "number", .ref n]) := fun k ex => by
  have h2 : ∀ {ex}, (st ++ ex)[n]? = some (.lst [lt1 (NumV 1 0)]) := fun {ex} => ga h
  have e : ∀ {ex : S} {Q : D → S → Prop}, Rn (eqO (.tup [.str "number", .ref n]) (.tup [])) (st ++ ex) Q = Q (.bl false) (st ++ ex) := fun {ex Q} => tup_nil (by
    simp
    refine ⟨(py_s (by decide +kernel)).up (by decide), toPy_lst h2 (by simp; exact (Py.test lt1_num).mono (by decide))⟩)
  rw [t_b_is_case]
  simp [b_is_case, isT_tup, isS_str, e, sz]
  rw [t_b_are_tests_of]
  simp [b_are_tests_of, isT_ref h2]
theorem no_10 (b n : Nat) (xs : List D) (h : st[n]? = some (.lst xs)) : NoC b st (.ref n) := fun k ex => by
  rw [t_b_is_case]
  simp [b_is_case, isT_ref (ga h)]
theorem no_11 (b : Nat) {NM : List Str} (hs : Ns NM) (hN : Nms st b NM) : NoC b st (.tup [.str "array", .tup [.str "item", .str "nobody"]]) := fun k ex => by
  have e : ∀ {st : S} {Q : D → S → Prop}, Rn (eqO (.tup [.str "array", .tup [.str "item", .str "nobody"]]) (.tup [])) st Q = Q (.bl false) st := tup_nil' (by
    simp
    exact ⟨Py.str (by decide +kernel), Py.tup (by simp; exact ⟨Py.str (by decide +kernel), Py.str nobody_ok⟩)⟩)
  rw [t_b_is_case]
  simp [b_is_case, isT_tup, isS_str, e, sz]
  have := is_pattern_ok NM b (k + 20) (.item "nobody") (st ++ ex) (by omega) (by decide) (by decide) (fun a ha => by rw [List.mem_singleton.mp ha]; exact nobody_ok) (hN.app _)
  refine this.mono fun x s ⟨h1, ex, h2⟩ => ?_
  subst h1 h2
  have : ip NM (.item "nobody") = false := by
    unfold ip wi inN
    simp [Pat.items, nobody_not hs]
  rw [this]
  simp
theorem no_12 (b : Nat) {NM : List Str} (hs : Ns NM) (hN : Nms st b NM) : NoC b st (.tup [.str "object", .tup [], .str "nobody"]) := fun k ex => by
  have e : ∀ {st : S} {Q : D → S → Prop}, Rn (eqO (.tup [.str "object", .tup [], .str "nobody"]) (.tup [])) st Q = Q (.bl false) st := tup_nil' (by
    simp
    exact ⟨Py.str (by decide +kernel), Py.tup (by simp), Py.str nobody_ok⟩)
  rw [t_b_is_case]
  simp [b_is_case, isT_tup, isS_str, e, sz]
  refine (are_triples_ok (k + 18) b NM [] (by decide) (by simp) (by simp) (st ++ ex) (hN.app _)).mono fun x s ⟨h1, ex, h2⟩ => ?_
  subst h1 h2
  simp [iso_s, isS_str]
  rw [((hN.app _).app _).inn]
  simp [nobody_not hs]
end
end K37


namespace K37
open PySem Mx
open L2 (Key)
section
variable {st : S} {Q : D → S → Prop}
theorem lap_first {L : Nat} {d : D} {r : List D} {g : D → Es → M Es} {b : Es → M (Es × Fl)} {es : Es} {QS : Es × Fl → S → Prop} : Rn (lapS (.seq (d :: r)) g b (L + 1) 0 es) st QS = Rn (g d es) st fun e s => Rn (b e) s fun p s2 => match p.2 with
    | .nx => Rn (lapS (.seq (d :: r)) g b L 1 p.1) s2 QS
    | .ct => Rn (lapS (.seq (d :: r)) g b L 1 p.1) s2 QS
    | .bk => QS (p.1, .nx) s2
    | .rt x => QS (p.1, .rt x) s2 := by
  have e : Rn (lapS (.seq (d :: r)) g b (L + 1) 0 es) st QS = Rn (do
      let es1 ← g d es
      let p ← b es1
      match p.2 with
        | .nx => lapS (.seq (d :: r)) g b L 1 p.1
        | .ct => lapS (.seq (d :: r)) g b L 1 p.1
        | .bk => pure (p.1, .nx)
        | .rt d => pure (p.1, .rt d)) st QS := rfl
  rw [e, run_bind]
  refine Rn_q (funext fun e => funext fun s => ?_)
  rw [run_bind]
  refine Rn_q (funext fun p => funext fun s2 => ?_)
  obtain ⟨es2, f⟩ := p
  cases f <;> rfl
theorem lap_second {L : Nat} {c d : D} {r : List D} {g : D → Es → M Es} {b : Es → M (Es × Fl)} {es : Es} {QS : Es × Fl → S → Prop} : Rn (lapS (.seq (c :: d :: r)) g b (L + 1) 1 es) st QS = Rn (g d es) st fun e s => Rn (b e) s fun p s2 => match p.2 with
    | .nx => Rn (lapS (.seq (c :: d :: r)) g b L 2 p.1) s2 QS
    | .ct => Rn (lapS (.seq (c :: d :: r)) g b L 2 p.1) s2 QS
    | .bk => QS (p.1, .nx) s2
    | .rt x => QS (p.1, .rt x) s2 := by
  have e : Rn (lapS (.seq (c :: d :: r)) g b (L + 1) 1 es) st QS = Rn (do
      let es1 ← g d es
      let p ← b es1
      match p.2 with
        | .nx => lapS (.seq (c :: d :: r)) g b L 2 p.1
        | .ct => lapS (.seq (c :: d :: r)) g b L 2 p.1
        | .bk => pure (p.1, .nx)
        | .rt d => pure (p.1, .rt d)) st QS := rfl
  rw [e, run_bind]
  refine Rn_q (funext fun e => funext fun s => ?_)
  rw [run_bind]
  refine Rn_q (funext fun p => funext fun s2 => ?_)
  obtain ⟨es2, f⟩ := p
  cases f <;> rfl
theorem L0_two : L0 = 999998 + 1 + 1 := rfl
theorem p97 : Pts [97] := ⟨by decide, by decide⟩
theorem tri_must (k b : Nat) {NM : List Str} (hN : Nms st b NM) {x : Str} (hx : x ∈ NM) : Rn (tb (k + 3) .Fare_triples [.tup [.tup [.tup [.int 97], .str x, .str "must"]], .ref b]) st fun d s => d = .bl false ∧ ∃ ex, s = st ++ ex := by
  rw [t_b_are_triples]
  simp [b_are_triples, isT_tup, run_emptyT, L0_two]
  rw [lap_first]
  simp [isT_tup]
  refine (is_points_ok k [97] p97).run fun ex2 => ?_
  rw [List.append_assoc, List.singleton_append]
  simp
  rw [show (D.tup [D.int 97]) = .tup (([97] : List Int).map .int) from rfl, run_inDit get_mid]
  simp [look, isS_str]
  rw [(hN.app _).nin]
  simp [hx, isS_str]
theorem tri_two (k b : Nat) {NM : List Str} (hN : Nms st b NM) {x : Str} (hx : x ∈ NM) : Rn (tb (k + 3) .Fare_triples [.tup [.tup [.tup [.int 97], .str x]], .ref b]) st fun d s => d = .bl false ∧ ∃ ex, s = st ++ ex := by
  rw [t_b_are_triples]
  simp [b_are_triples, isT_tup, run_emptyT, L0_two]
  rw [lap_first]
  simp [isT_tup]
theorem tri_lst (k b n : Nat) (xs : List D) (h : st[n]? = some (.lst xs)) {x : Str} : Rn (tb (k + 3) .Fare_triples [.tup [.ref n, .str x, .str "asked"], .ref b]) st fun d s => d = .bl false ∧ ∃ ex, s = st ++ ex := by
  rw [t_b_are_triples]
  simp [b_are_triples, isT_tup, run_emptyT, L0_two]
  rw [lap_first]
  simp
  rw [isT_ref (ga h)]
  simp
theorem tri_dup (k b : Nat) {NM : List Str} (hN : Nms st b NM) {x : Str} (hx : x ∈ NM) : Rn (tb (k + 3) .Fare_triples [.tup [.tup [.tup [.int 97], .str x, .str "asked"], .tup [.tup [.int 97], .str x, .str "allowed"]], .ref b]) st fun d s => d = .bl false ∧ ∃ ex, s = st ++ ex := by
  rw [t_b_are_triples]
  simp [b_are_triples, isT_tup, run_emptyT, L0_two]
  rw [lap_first]
  simp [isT_tup]
  refine (is_points_ok k [97] p97).run fun ex2 => ?_
  rw [List.append_assoc, List.singleton_append]
  simp
  rw [show (D.tup [D.int 97]) = .tup (([97] : List Int).map .int) from rfl, run_inDit get_mid]
  simp [look, isS_str]
  rw [(hN.app _).nin]
  simp [hx, isS_str]
  rw [show (D.tup [D.int 97]) = .tup (([97] : List Int).map .int) from rfl, run_setDit get_mid (by decide), set_mid]
  try dsimp only
  rw [lap_second]
  simp [isT_tup]
  refine (is_points_ok k [97] p97).run fun ex3 => ?_
  rw [List.append_assoc, List.cons_append]
  simp
  rw [show (D.tup [D.int 97]) = .tup (([97] : List Int).map .int) from rfl, run_inDit get_mid]
  simp [look, put]
theorem no_13 (b : Nat) {NM : List Str} (hs : Ns NM) (hN : Nms st b NM) {x : Str} (hx : x ∈ NM) : NoC b st (.tup [.str "object", .tup [.tup [.tup [.int 97], .str x, .str "must"]], .non]) := fun k ex => by
  have e : ∀ {st : S} {Q : D → S → Prop}, Rn (eqO (.tup [.str "object", .tup [.tup [.tup [.int 97], .str x, .str "must"]], .non]) (.tup [])) st Q = Q (.bl false) st := tup_nil' (by
    simp
    exact ⟨Py.str (by decide +kernel), Py.tup (by simp; exact Py.tup (by simp; exact ⟨Py.tup (by simp; exact Py.int), Py.str (hs.ok hx), Py.str (by decide +kernel)⟩)), Py.non⟩)
  rw [t_b_is_case]
  simp [b_is_case, isT_tup, isS_str, e, sz]
  refine (tri_must (k + 18) b (hN.app ex) hx).mono fun x s ⟨h1, ex, h2⟩ => ?_
  subst h1 h2
  simp
theorem no_14 (b : Nat) {NM : List Str} (hs : Ns NM) (hN : Nms st b NM) {x : Str} (hx : x ∈ NM) : NoC b st (.tup [.str "object", .tup [.tup [.tup [.int 97], .str x]], .non]) := fun k ex => by
  have e : ∀ {st : S} {Q : D → S → Prop}, Rn (eqO (.tup [.str "object", .tup [.tup [.tup [.int 97], .str x]], .non]) (.tup [])) st Q = Q (.bl false) st := tup_nil' (by
    simp
    exact ⟨Py.str (by decide +kernel), Py.tup (by simp; exact Py.tup (by simp; exact ⟨Py.tup (by simp; exact Py.int), Py.str (hs.ok hx)⟩)), Py.non⟩)
  rw [t_b_is_case]
  simp [b_is_case, isT_tup, isS_str, e, sz]
  refine (tri_two (k + 18) b (hN.app ex) hx).mono fun x s ⟨h1, ex, h2⟩ => ?_
  subst h1 h2
  simp
theorem no_15 (b : Nat) {NM : List Str} (hs : Ns NM) (hN : Nms st b NM) {x : Str} (hx : x ∈ NM) : NoC b st (.tup [.str "object", .tup [.tup [.tup [.int 97], .str x, .str "asked"], .tup [.tup [.int 97], .str x, .str "allowed"]], .non]) := fun k ex => by
  have e : ∀ {st : S} {Q : D → S → Prop}, Rn (eqO (.tup [.str "object", .tup [.tup [.tup [.int 97], .str x, .str "asked"], .tup [.tup [.int 97], .str x, .str "allowed"]], .non]) (.tup [])) st Q = Q (.bl false) st := tup_nil' (by
    simp
    exact ⟨Py.str (by decide +kernel), Py.tup (by simp; exact ⟨Py.tup (by simp; exact ⟨Py.tup (by simp; exact Py.int), Py.str (hs.ok hx), Py.str (by decide +kernel)⟩), Py.tup (by simp; exact ⟨Py.tup (by simp; exact Py.int), Py.str (hs.ok hx), Py.str (by decide +kernel)⟩)⟩), Py.non⟩)
  rw [t_b_is_case]
  simp [b_is_case, isT_tup, isS_str, e, sz]
  refine (tri_dup (k + 18) b (hN.app ex) hx).mono fun x s ⟨h1, ex, h2⟩ => ?_
  subst h1 h2
  simp
theorem no_16 (b n : Nat) {NM : List Str} (hs : Ns NM) {x : Str} (hx : x ∈ NM) (h : st[n]? = some (.lst [.int 97])) : NoC b st (.tup [.str "object", .tup [.ref n, .str x, .str "asked"], .non]) := fun k ex => by
  have e : ∀ {ex : S} {Q : D → S → Prop}, Rn (eqO (.tup [.str "object", .tup [.ref n, .str x, .str "asked"], .non]) (.tup [])) (st ++ ex) Q = Q (.bl false) (st ++ ex) := fun {ex Q} => tup_nil (by
    have hl : ∀ {m}, (toPy (st ++ ex) (m + 2) (.ref n)).isSome = true := fun {m} => by
      unfold toPy
      rw [ga h]
      rfl
    have h1 : (toPy (st ++ ex) 62 (.str x)).isSome = true := (Py.str (n := 3) (hs.ok hx)).up (by decide)
    have h2 : (toPy (st ++ ex) 62 (.str "asked")).isSome = true := (Py.str (n := 3) (by decide +kernel)).up (by decide)
    simp
    refine ⟨(py_s (by decide +kernel)).up (by decide), ?_, rfl⟩
    obtain ⟨ys, e, _⟩ := mapO_some (f := toPy (st ++ ex) 62) (xs := [.ref n, .str x, .str "asked"]) (by simp; exact ⟨hl, h1, h2⟩)
    unfold toPy
    rw [e]
    rfl)
  rw [t_b_is_case]
  simp [b_is_case, isT_tup, isS_str, e, sz]
  refine (tri_lst (k + 18) b n [.int 97] (ga h)).mono fun x s ⟨h1, ex, h2⟩ => ?_
  subst h1 h2
  simp
end
end K37


namespace K37
open PySem Mx
open L2 (Key)
/-- is_book says no -/
def NoB (s : S) (d : D) : Prop := ∀ k, Rn (tb (k + 23) .Fis_book [d]) s fun x s2 => x = .bl false ∧ ∃ ex, s2 = s ++ ex
theorem nb_lst {s : S} {n : Nat} {xs : List D} (h : s[n]? = some (.lst xs)) : NoB s (.ref n) := fun k => by
  rw [t_b_is_book]
  simp [b_is_book, isD_lst h]
theorem nb_non {s : S} : NoB s .non := fun k => by
  rw [t_b_is_book]
  simp [b_is_book, isD_non]
theorem nb_str {s : S} {x : Str} : NoB s (.str x) := fun k => by
  rw [t_b_is_book]
  simp [b_is_book, isD_str]
theorem nb_nil {s : S} {n : Nat} (h : s[n]? = some (.dic [])) : NoB s (.ref n) := fun k => by
  rw [t_b_is_book]
  simp [b_is_book, isD_dic h, run_lenC h]
theorem key_gv (k : Nat) : ∀ q : Key, (∀ x, q = .inr x → x.length ≤ 1000) → Gv (tb (k + 1) .Fis_type_name [kD q]) (.bl (nameD (kD q)))
  | .inl i, _ => is_type_int k i
  | .inr x, h => is_type_name_ok k x (h x rfl)
theorem nb_keys {s : S} {b : Nat} {kvs : List (Key × D)} (hb : s[b]? = some (.dic kvs)) (h1 : 1 ≤ kvs.length) (hl : kvs.length ≤ 8) (hk : ∀ q ∈ kvs, ∀ x, q.1 = .inr x → x.length ≤ 1000) (hn : ((kvs.map fun q => kD q.1).all nameD) = false) : NoB s (.ref b) := fun k => by
  refine is_book_core (k + 22) b s kvs nameD (fun _ => true) hb hl h1 (fun q hq => key_gv (k + 21) q.1 (hk q hq)) (fun h => ?_) _ (fun _ ex => ⟨rfl, ex, rfl⟩) (fun h => ?_)
  · rw [hn] at h; cases h
  · rw [hn] at h; cases h
open Classical in
theorem nb_val {s : S} {b : Nat} {bk : List (Str × D)} {TS : List D} (vb : D) (hb : s[b]? = some (.dic (kvB bk))) (ns : Ns (bk.map (·.1))) (vals : ∀ p ∈ bk, p.2 = vb ∨ ∃ cs : List D, p.2 = .tup cs ∧ cs.length ≤ 3 ∧ ∀ c ∈ cs, GoodCase (bk.map (·.1)) TS c) (hx : ∃ p ∈ bk, p.2 = vb) (hv : ∀ k, VB (k + 22) b (s.set b (.dif (kvB bk))) vb false) : NoB s (.ref b) := fun k => by
  have hlen : (kvB bk).length = bk.length := by unfold kvB; rw [List.length_map]
  have l1 := ns.pos
  have l2 := ns.le
  rw [List.length_map] at l1 l2
  have nl : b < s.length := (List.getElem?_eq_some_iff.mp hb).1
  have hd : (s.set b (.dif (kvB bk)))[b]? = some (.dif (kvB bk)) := List.getElem?_set_self nl
  have hN : Nms (s.set b (.dif (kvB bk))) b (bk.map (·.1)) := nms_of (by rw [hd]; rfl)
  refine is_book_core (k + 22) b s (kvB bk) nameD (fun v => if v = vb then false else true) hb (by omega) (by omega) (fun q hq => ?_) (fun _ q hq => ?_) _ (fun _ ex => ⟨rfl, ex, rfl⟩) (fun _ h => ?_)
  · obtain ⟨p, hp, rfl⟩ := List.mem_map.mp hq
    exact is_type_name_ok (k + 21) p.1 (eight_ok p.1 (ns.sub _ (List.mem_map.mpr ⟨p, hp, rfl⟩))).2.2
  · obtain ⟨p, hp, rfl⟩ := List.mem_map.mp hq
    try dsimp only
    by_cases e : p.2 = vb
    · rw [if_pos e, e]
      exact hv k
    · rw [if_neg e]
      obtain ⟨cs, h1, h2, h3⟩ := (vals p hp).resolve_left e
      have := vb_tup (k + 22) b (s.set b (.dif (kvB bk))) cs (fun _ => true) (by omega) fun c hc ex => is_case_ok k b ns (h3 c hc) _ (hN.app ex)
      rw [show cs.all (fun _ => true) = true by simp] at this
      rw [h1]
      exact this
  · obtain ⟨p, hp, e⟩ := hx
    rw [List.all_eq_true] at h
    have := h p.2 (List.mem_map.mpr ⟨(.inr p.1, p.2), List.mem_map.mpr ⟨p, hp, rfl⟩, rfl⟩)
    rw [if_pos e] at this
    cases this
open Classical in
theorem vb_bad {st1 : S} {b : Nat} {NM : List Str} {TS : List D} (ns : Ns NM) (hN : Nms st1 b NM) {cs : List D} (hl : cs.length ≤ 3) (hc : ∀ c ∈ cs, GoodCase NM TS c) {bad : D} (h : NoC b st1 bad) (k : Nat) : VB (k + 22) b st1 (.tup (cs ++ [bad])) false := by
  have := vb_tup (k + 22) b st1 (cs ++ [bad]) (fun c => if c = bad then false else true) (by simp; omega) fun c hc2 ex => by
    by_cases e : c = bad
    · rw [if_pos e, e]
      exact h k ex
    · rw [if_neg e]
      rcases List.mem_append.mp hc2 with h2 | h2
      · exact is_case_ok k b ns (hc c h2) _ (hN.app ex)
      · exact absurd (List.mem_singleton.mp h2) e
  rw [show (cs ++ [bad]).all (fun c => if c = bad then false else true) = false by
    rw [List.all_append, Bool.and_eq_false_iff]
    right
    simp] at this
  exact this
/-! a value put under a name -/
def putB (bk : List (Str × D)) (x : Str) (v : D) : List (Str × D) := bk.map fun p => if p.1 = x then (p.1, v) else p
theorem putB_names {bk : List (Str × D)} {x : Str} {v : D} : (putB bk x v).map (·.1) = bk.map (·.1) := by
  unfold putB
  rw [List.map_map]
  refine List.map_congr_left fun p _ => ?_
  show (if p.1 = x then (p.1, v) else p).1 = p.1
  split <;> rfl
theorem repl_kvB {x : Str} {v : D} : ∀ bk : List (Str × D), repl (kvB bk) (.inr x) v = kvB (putB bk x v)
  | [] => rfl
  | p :: bk => by
    have ih := repl_kvB (x := x) (v := v) bk
    show (if (Sum.inr p.1 : Key) = .inr x then (Sum.inr p.1, v) else (Sum.inr p.1, p.2)) :: repl (kvB bk) (.inr x) v = _
    rw [ih]
    unfold putB kvB
    rw [List.map_cons, List.map_cons]
    congr 1
    by_cases e : p.1 = x
    · rw [if_pos (congrArg Sum.inr e), if_pos e]
    · rw [if_neg fun z => e (Sum.inr.inj z), if_neg e]
theorem put_kvB {bk : List (Str × D)} {x : Str} {v : D} (h : x ∈ bk.map (·.1)) : put (kvB bk) (.inr x) v = kvB (putB bk x v) := by
  obtain ⟨p, _, e⟩ := look_kvB h
  unfold put
  rw [e]
  exact repl_kvB bk
theorem put_off {bk : List (Str × D)} {q : Key} {v : D} (h : q ∉ (kvB bk).map (·.1)) : put (kvB bk) q v = kvB bk ++ [(q, v)] := by
  unfold put
  rw [look_no' h]
  rfl
end K37


namespace K37
open PySem Mx
open L2 (Key)
theorem run_loop {t : Es → M Bool} {b : Es → M (Es × Fl)} {n : Nat} {es : Es} {st : S} {QS : Es × Fl → S → Prop} : Rn (loopS t b (n + 1) es) st QS = Rn (t es) st fun q s => if q = true then Rn (b es) s fun p s2 => match p.2 with
      | .nx => Rn (loopS t b n p.1) s2 QS
      | .ct => Rn (loopS t b n p.1) s2 QS
      | .bk => QS (p.1, .nx) s2
      | .rt d => QS (p.1, .rt d) s2 else QS (es, .nx) s := by
  have e : loopS t b (n + 1) es = (do
    let q ← t es
    if q then do
      let p ← b es
      match p.2 with
        | .nx => loopS t b n p.1
        | .ct => loopS t b n p.1
        | .bk => pure (p.1, .nx)
        | .rt d => pure (p.1, .rt d)
    else pure (es, .nx)) := by
    rw [loopS]
    try rfl
  rw [e, run_bind]
  refine Rn_q (funext fun q => funext fun s => ?_)
  cases q with
  | true =>
    show Rn (b es >>= _) s QS = _
    rw [run_bind, if_pos rfl]
    refine Rn_q (funext fun p => funext fun s2 => ?_)
    obtain ⟨e2, f⟩ := p
    cases f <;> rfl
  | false => rfl
/-! ### draws of tests -/
@[simp] theorem run_negI {i : Int} {st : S} {Q : D → S → Prop} : Rn (negD (.int i)) st Q = Q (.int (-i)) st := rfl
theorem number_ok (k : Nat) (a t : Int) (h : -3 ≤ a ∧ a ≤ 10) (st : S) (Q : D → S → Prop) (q : ∀ a' t', Dec a' t' → Q (NumV a' t') st) : Rn (tb (k + 1) .F_law_number [.int a, .int t]) st Q := by
  rw [t_b__law_number]
  simp [b__law_number, L0_two]
  rw [run_loop]
  by_cases h0 : a = 0
  · subst h0
    simp [sz]
    exact q 0 0 (.inr ⟨rfl, rfl⟩)
  by_cases h10 : a = 10
  · subst h10
    simp
    rw [run_loop]
    simp [sz]
    exact q 1 (t + 1) (.inl (by decide))
  · have hm : ¬ a.fmod 10 = 0 := by
      have : a = -3 ∨ a = -2 ∨ a = -1 ∨ a = 1 ∨ a = 2 ∨ a = 3 ∨ a = 4 ∨ a = 5 ∨ a = 6 ∨ a = 7 ∨ a = 8 ∨ a = 9 := by omega
      rcases this with rfl | rfl | rfl | rfl | rfl | rfl | rfl | rfl | rfl | rfl | rfl | rfl <;> decide
    simp [h0, hm, sz]
    exact q a t (.inl hm)
theorem some_test_ok (k n g c T : Nat) (kd : Str) (hk : kd = "number" ∨ kd = "string") (st : S) (h : Drw n g c T st) (hT : T ≤ 900000) : Rn (tb (k + 4) .F_law_some_test [.ref n, .str kd]) st fun d s => TestD d kd ∧ Drw n g c (T + 3) s ∧ Kp n g st s := by
  rw [t_b__law_some_test]
  simp [b__law_some_test, sz]
  refine (pickNew k n g c T [.str "<", .str "<=", .str "==", .str ">=", .str ">"] st h (by omega) (by decide) (by decide)).mono fun x s ⟨hx, h1, kp1⟩ => ?_
  obtain ⟨sg, hs, rfl⟩ : ∃ sg ∈ signs, x = .str sg := by
    simp at hx
    rcases hx with rfl | rfl | rfl | rfl | rfl
    all_goals exact ⟨_, by decide +kernel, rfl⟩
  rcases hk with rfl | rfl
  · simp [sz]
    refine (draw_ok (k + 1) n g c (T + 1) 14 s h1 (by omega) (by decide) (by decide)).mono fun d s2 ⟨⟨i, i0, i1, e⟩, h2, kp2⟩ => ?_
    subst e
    simp [sz]
    refine (pickNew k n g c (T + 2) [.int 0, .int 0, .int 0, .int (-1), .int 1] s2 h2 (by omega) (by decide) (by decide)).mono fun y s3 ⟨hy, h3, kp3⟩ => ?_
    obtain ⟨t, rfl⟩ : ∃ t, y = .int t := by
      simp at hy
      rcases hy with rfl | rfl | rfl <;> exact ⟨_, rfl⟩
    try simp
    refine number_ok (k + 2) (i - 3) t (by omega) s3 _ fun a' t' hd => ?_
    simp [sz]
    exact ⟨⟨sg, _, _, hs, .num a' t' hd⟩, h3, (kp1.trans kp2).trans kp3⟩
  · simp [sz]
    refine (pickNew k n g c (T + 1) [.tup [], .tup [.int 97], .tup [.int 97, .int 98], .tup [.int 98], .tup [.int 97, .int 0], .tup [.int 34], .tup [.int 32]] s h1 (by omega) (by simp) (by simp)).mono fun y s3 ⟨hy, h3, kp3⟩ => ?_
    obtain ⟨l, hl, rfl⟩ : ∃ l, Pts l ∧ y = .tup (l.map .int) := by
      simp at hy
      rcases hy with rfl | rfl | rfl | rfl | rfl | rfl | rfl
      · exact ⟨[], ⟨by decide, by decide⟩, rfl⟩
      · exact ⟨[97], ⟨by decide, by decide⟩, rfl⟩
      · exact ⟨[97, 98], ⟨by decide, by decide⟩, rfl⟩
      · exact ⟨[98], ⟨by decide, by decide⟩, rfl⟩
      · exact ⟨[97, 0], ⟨by decide, by decide⟩, rfl⟩
      · exact ⟨[34], ⟨by decide, by decide⟩, rfl⟩
      · exact ⟨[32], ⟨by decide, by decide⟩, rfl⟩
    simp [sz]
    exact ⟨⟨sg, _, _, hs, .str l hl⟩, h3.up (by omega), kp1.trans kp3⟩
/-! ### a draw of names -/
theorem run_popI {st : S} {Q : D → S → Prop} {n : Nat} {xs : List D} {i : Int} (h : st[n]? = some (.lst xs)) (h0 : 0 ≤ i) (h1 : i < xs.length) (h2 : xs.length ≤ 1000) : Rn (popD (.ref n) [.int i]) st Q = Q (xs[i.toNat]'(by omega)) (st.set n (.lst (xs.eraseIdx i.toNat))) := by
  show Rn (lstAt n >>= _) st Q = _
  rw [run_bind, run_some (lstAt_of h)]
  have e : seqIndex? i xs.length = some i.toNat := by
    unfold seqIndex?
    simp
    omega
  rw [e]
  have hx : xs[i.toNat]? = some (xs[i.toNat]'(by omega)) := List.getElem?_eq_getElem (by omega)
  try dsimp only
  rw [hx]
  show Rn (guardM _ >>= _) st Q = _
  rw [run_bind, run_guard]
  have hs : small62 i = true := by
    unfold small62
    simp
    omega
  simp only [hs, true_and]
  rfl
theorem run_append {st : S} {Q : D → S → Prop} {n : Nat} {xs : List D} {y : D} (h : st[n]? = some (.lst xs)) (h2 : xs.length ≤ 1000) : Rn (appendD (.ref n) [y]) st Q = Q .non (st.set n (.lst (xs ++ [y]))) := by
  show Rn (lstAt n >>= _) st Q = _
  rw [run_bind, run_some (lstAt_of h)]
  show Rn (guardM _ >>= _) st Q = _
  rw [run_bind, run_guard, decide_eq_true_eq]
  simp only [sz3 (by omega : xs.length ≤ 10000), true_and]
  rfl
end K37


namespace K37
open PySem Mx
open L2 (Key)
theorem run_neLS {st : S} {Q : D → S → Prop} {n m : Nat} {l : List Str} (ok : ∀ x ∈ l, PyData.strOk x = true) (h : st[n]? = some (.lst (l.map .str))) (h2 : st[m]? = some (.lst [])) : Rn (neO (.ref n) (.ref m)) st Q = Q (.bl (!decide (l = []))) st := by
  obtain ⟨ps, e, el⟩ := mapO_some (f := toPy st 63) (xs := l.map .str) fun x hx => by
    obtain ⟨y, hy, rfl⟩ := List.mem_map.mp hx
    exact (Py.str (n := 5) (ok y hy)).up (by decide)
  have e1 : toPy st 64 (.ref n) = some (.list ps) := by
    unfold toPy
    rw [h]
    show (match mapO (toPy st 63) (l.map .str) with | some ps => some (PyData.list ps) | none => none) = _
    rw [e]
  have e2 : toPy st 64 (.ref m) = some (.list []) := by
    unfold toPy
    rw [h2]
    rfl
  rw [run_neO, e1, e2]
  show Q (.bl (!PyData.eqv (.list ps) (.list []))) st = _
  cases l with
  | nil =>
    cases ps with
    | nil => rw [PyData.eqv, PyData.eqvAll]; simp
    | cons p ps => simp at el
  | cons x l =>
    cases ps with
    | nil => simp at el
    | cons p ps => rw [PyData.eqv, PyData.eqvAll]; simp
theorem Drw.set {n g c T m : Nat} {st : S} {o : O} (h : Drw n g c T st) (h1 : m ≠ n) (h2 : m ≠ g) (h3 : m ≠ c) : Drw n g c T (st.set m o) := by
  obtain ⟨ng, nc, gc, ⟨r, t, e1, e2, e3, e4⟩, ⟨gs, e5, e6, e7⟩, ⟨cs, e8, e9⟩⟩ := h
  exact ⟨ng, nc, gc, ⟨r, t, e1, e2, e3, by rw [List.getElem?_set_ne h1]; exact e4⟩, ⟨gs, e5, e6, by rw [List.getElem?_set_ne h2]; exact e7⟩, ⟨cs, e8, by rw [List.getElem?_set_ne h3]; exact e9⟩⟩
theorem Drw.ltc {n g c T : Nat} {st : S} (h : Drw n g c T st) : c < st.length := by
  obtain ⟨ng, nc, gc, ⟨r, t, r0, t0, tT, hd⟩, ⟨gs, g0, gl, hg⟩, ⟨cs, cl, hc⟩⟩ := h
  exact (List.getElem?_eq_some_iff.mp hc).1
/-- all but four places stays -/
def K4 (n g P F : Nat) (st s : S) : Prop := st.length ≤ s.length ∧ ∀ (i : Nat) (o : O), i ≠ n → i ≠ g → i ≠ P → i ≠ F → st[i]? = some o → s[i]? = some o
def shT (k : Nat) : Es → M Bool := tstD (opD neO (varD 2) (lstD (nilA)))
def shB (k : Nat) : Es → M (Es × Fl) := dropS (lmD appendD (varD 3) (consA (lmD popD (varD 2) (consA (callD (tb (k + 2) .F_law_draw) (consA (varD 0) (consA (callD (on1 lenD) (consA (varD 2) (nilA))) (nilA)))) (nilA))) (nilA)))
theorem erase_map {α β : Type} {f : α → β} : ∀ {l : List α} {i : Nat}, (l.map f).eraseIdx i = (l.eraseIdx i).map f
  | [], _ => rfl
  | _ :: _, 0 => rfl
  | x :: l, i + 1 => congrArg (f x :: ·) (erase_map (l := l) (i := i))
theorem erase_perm {α : Type} : ∀ {l : List α} {i : Nat} (h : i < l.length), (l[i] :: l.eraseIdx i).Perm l
  | x :: l, 0, _ => List.Perm.refl _
  | x :: l, i + 1, h => by
    have := erase_perm (l := l) (i := i) (by simpa using h)
    exact (List.Perm.swap x _ _).trans (this.cons x)
theorem shuffle_loop (k n g c P F : Nat) (o1 : Option D) (h1 : P ≠ n) (h2 : P ≠ g) (h3 : P ≠ c) (h4 : F ≠ n) (h5 : F ≠ g) (h6 : F ≠ c) (h7 : P ≠ F) : ∀ (m : Nat) (l f : List Str) (T : Nat) (st : S), Drw n g c T st → st[P]? = some (.lst (l.map .str)) → st[F]? = some (.lst (f.map .str)) → (∀ x ∈ l, PyData.strOk x = true) → l.length ≤ m → f.length + l.length ≤ 100 → T + l.length ≤ 900000 →
    Rn (loopS (shT k) (shB k) (m + 1) [some (.ref n), o1, some (.ref P), some (.ref F)]) st fun p s => p = ([some (.ref n), o1, some (.ref P), some (.ref F)], .nx) ∧ (∃ f' : List Str, s[F]? = some (.lst (f'.map .str)) ∧ f'.Perm (f ++ l)) ∧ Drw n g c (T + l.length) s ∧ K4 n g P F st s := by
  intro m
  induction m with
  | zero =>
    intro l f T st hD hP hF ok hl hfl hT
    have : l = [] := List.eq_nil_of_length_eq_zero (by omega)
    subst this
    rw [run_loop]
    try simp [shT, sz]
    rw [run_neLS ok (ga hP) (by simp)]
    try simp
    exact ⟨⟨f, ga hF, List.Perm.refl _⟩, hD.app _, by simp, fun i o _ _ _ _ e => ga e⟩
  | succ m ih =>
    intro l f T st hD hP hF ok hl hfl hT
    rw [run_loop]
    try simp [shT, sz]
    rw [run_neLS ok (ga hP) (by simp)]
    by_cases hn : l = []
    · subst hn
      try simp
      exact ⟨⟨f, ga hF, List.Perm.refl _⟩, hD.app _, by simp, fun i o _ _ _ _ e => ga e⟩
    · have pos : 0 < l.length := List.length_pos_iff.mpr hn
      try simp [hn]
      rw [show shB k = dropS (lmD appendD (varD 3) (consA (lmD popD (varD 2) (consA (callD (tb (k + 2) .F_law_draw) (consA (varD 0) (consA (callD (on1 lenD) (consA (varD 2) (nilA))) (nilA)))) (nilA))) (nilA))) from rfl]
      try simp
      rw [run_isLst (ga hF)]
      try simp
      rw [run_isLst (ga hP)]
      try simp
      rw [run_lenR (ga hP)]
      try simp
      refine (draw_ok k n g c T l.length (st ++ [.lst []]) (hD.app _) (by omega) (by omega) (by omega)).mono fun d s ⟨⟨i, i0, i1, e⟩, hD2, kp⟩ => ?_
      subst e
      have hP2 := kp.2 _ _ h1 h2 (ga hP)
      have hF2 := kp.2 _ _ h4 h5 (ga hF)
      try simp
      rw [run_popI hP2 i0 (by simpa using i1) (by simp; omega)]
      have pl : P < s.length := (List.getElem?_eq_some_iff.mp hP2).1
      have fl : F < s.length := (List.getElem?_eq_some_iff.mp hF2).1
      have hF3 : (s.set P (.lst ((l.map D.str).eraseIdx i.toNat)))[F]? = some (.lst (f.map .str)) := by rw [List.getElem?_set_ne h7]; exact hF2
      try simp
      rw [run_append hF3 (by simp; omega)]
      have hi : i.toNat < l.length := by omega
      have eP : ((s.set P (.lst ((l.map D.str).eraseIdx i.toNat))).set F (.lst (f.map D.str ++ [D.str l[i.toNat]])))[P]? = some (.lst ((l.eraseIdx i.toNat).map .str)) := by
        rw [List.getElem?_set_ne (Ne.symm h7), List.getElem?_set_self pl, erase_map]
      have eF : ((s.set P (.lst ((l.map D.str).eraseIdx i.toNat))).set F (.lst (f.map D.str ++ [D.str l[i.toNat]])))[F]? = some (.lst ((f ++ [l[i.toNat]]).map .str)) := by
        rw [List.getElem?_set_self (by simpa using fl)]
        try simp
      have el : (l.eraseIdx i.toNat).length = l.length - 1 := List.length_eraseIdx_of_lt hi
      have := ih (l.eraseIdx i.toNat) (f ++ [l[i.toNat]]) (T + 1) _ ((hD2.set h1 h2 h3).set h4 h5 h6) eP eF (fun x hx => ok x (List.mem_of_mem_eraseIdx hx)) (by omega) (by simp; omega) (by omega)
      try simp only [List.getElem_map]
      refine this.mono fun p s2 ⟨q1, ⟨f', q2, q3⟩, q4, q5⟩ => ⟨q1, ⟨f', q2, q3.trans ?_⟩, q4.up (by omega), ?_⟩
      · rw [List.append_assoc]
        exact List.Perm.append_left f (erase_perm hi)
      · refine ⟨Nat.le_trans kp.1 (by simpa using q5.1) |> Nat.le_trans (by simp), fun i o a1 a2 a3 a4 e => q5.2 i o a1 a2 a3 a4 ?_⟩
        rw [List.getElem?_set_ne (Ne.symm a4), List.getElem?_set_ne (Ne.symm a3)]
        exact kp.2 _ _ a1 a2 (ga e)
theorem shuffled_ok (k n g c T m : Nat) (xs : List Str) (st : S) (h : Drw n g c T st) (hm : st[m]? = some (.lst (xs.map .str))) (ok : ∀ x ∈ xs, PyData.strOk x = true) (hl : xs.length ≤ 100) (hT : T + xs.length ≤ 900000) : Rn (tb (k + 3) .F_law_shuffled [.ref n, .ref m]) st fun d s => ∃ (F : Nat) (f : List Str), d = .ref F ∧ st.length ≤ F ∧ s[F]? = some (.lst (f.map .str)) ∧ f.Perm xs ∧ Drw n g c (T + xs.length) s ∧ Kp n g st s := by
  rw [t_b__law_shuffled]
  try simp [b__law_shuffled]
  rw [run_listE_lst hm]
  try simp [sz]
  have l1 := h.lt
  have l2 := h.ltc
  have hD2 : Drw n g c T (st ++ [O.lst (xs.map .str)] ++ [.lst []]) := (h.app _).app _
  rw [show (tstD (opD neO (varD 2) (lstD nilA)) : Es → M Bool) = shT k from rfl, show L0 = 999999 + 1 from rfl, show (dropS (lmD appendD (varD 3) (consA (lmD popD (varD 2) (consA (callD (tb (k + 2) .F_law_draw) (consA (varD 0) (consA (callD (on1 lenD) (consA (varD 2) (nilA))) (nilA)))) (nilA))) (nilA))) : Es → M (Es × Fl)) = shB k from rfl]
  refine (shuffle_loop k n g c st.length (st.length + 1) (some (.ref m)) (by omega) (by omega) (by omega) (by omega) (by omega) (by omega) (by omega) 999999 xs [] T _ hD2 (by simp) (by simp) ok (by omega) (by simp; omega) hT).mono fun p s ⟨e, ⟨f, q2, q3⟩, q4, q5⟩ => ?_
  subst e
  try simp only [run_ret, run_var, List.getElem?_cons_zero, List.getElem?_cons_succ]
  exact ⟨_, _, rfl, by omega, q2, by simpa using q3, q4, ⟨Nat.le_trans (by simp) q5.1, fun i o a1 a2 e => q5.2 i o a1 a2 (fun z => by subst z; have := (List.getElem?_eq_some_iff.mp e).1; omega) (fun z => by subst z; have := (List.getElem?_eq_some_iff.mp e).1; omega) (ga (ga e))⟩⟩
end K37


namespace K37
open PySem Mx
open L2 (Key)
/-! ### draws of members and cases -/
theorem some_points_ok (k n g c T : Nat) (st : S) (h : Drw n g c T st) (hT : T ≤ 900000) : Rn (tb (k + 4) .F_law_some_points [.ref n]) st fun d s => (∃ l ∈ six, d = .tup (l.map .int)) ∧ Drw n g c (T + 1) s ∧ Kp n g st s := by
  rw [t_b__law_some_points]
  try simp [b__law_some_points, sz]
  refine (pickNew k n g c T [.tup [.int 97], .tup [.int 98], .tup [.int 107], .tup [], .tup [.int 97, .int 97], .tup [.int 32]] st h (by omega) (by simp) (by simp)).mono fun y s ⟨hy, h3, kp3⟩ => ?_
  try simp
  refine ⟨?_, h3, kp3⟩
  try simp at hy
  rcases hy with rfl | rfl | rfl | rfl | rfl | rfl
  · exact ⟨[97], by decide, rfl⟩
  · exact ⟨[98], by decide, rfl⟩
  · exact ⟨[107], by decide, rfl⟩
  · exact ⟨[], by decide, rfl⟩
  · exact ⟨[97, 97], by decide, rfl⟩
  · exact ⟨[32], by decide, rfl⟩
theorem six_pts : ∀ l ∈ six, Pts l := by
  intro l hl
  try simp [six] at hl
  rcases hl with rfl | rfl | rfl | rfl | rfl | rfl
  all_goals exact ⟨by decide, by decide⟩
theorem eqv_ints : ∀ l m : List Int, PyData.eqv (.tuple (l.map .int)) (.tuple (m.map .int)) = decide (l = m)
  | [], [] => by rw [List.map_nil, PyData.eqv, PyData.eqvAll]; rfl
  | [], j :: m => by rw [List.map_nil, List.map_cons, PyData.eqv, PyData.eqvAll]; rfl
  | i :: l, [] => by rw [List.map_nil, List.map_cons, PyData.eqv, PyData.eqvAll]; rfl
  | i :: l, j :: m => by
    have ih := eqv_ints l m
    rw [PyData.eqv] at ih
    rw [List.map_cons, List.map_cons, PyData.eqv, PyData.eqvAll, ih, PyData.eqv]
    by_cases h1 : i = j
    · by_cases h2 : l = m
      · simp [h1, h2]
      · simp [h1, h2]
    · simp [h1]
theorem toPy_pts {st : S} (l : List Int) (n : Nat) : toPy st (n + 2) (.tup (l.map .int)) = some (.tuple (l.map .int)) := by
  unfold toPy
  rw [toPy_ints l n]
theorem mapO_pts {st : S} : ∀ (ls : List (List Int)), mapO (toPy st 63) (ls.map fun l => D.tup (l.map .int)) = some (ls.map fun l => PyData.tuple (l.map .int))
  | [] => rfl
  | l :: ls => by
    rw [List.map_cons]
    unfold mapO
    rw [mapO_pts ls, toPy_pts l 61]
    rfl
theorem run_ninPts {st : S} {Q : D → S → Prop} {m : Nat} {l : List Int} {ls : List (List Int)} (h : st[m]? = some (.lst (ls.map fun l => D.tup (l.map .int)))) : Rn (ninO (.tup (l.map .int)) (.ref m)) st Q = Q (.bl (!decide (l ∈ ls))) st := by
  unfold ninO
  rw [run_blM, run_bind]
  have e : inRef (.tup (l.map .int)) m st = some (decide (l ∈ ls), st) := by
    unfold inRef
    rw [h]
    show inDeep (.tup (l.map .int)) (ls.map fun l => D.tup (l.map .int)) st = _
    unfold inDeep
    rw [toPy_pts l 62, mapO_pts ls]
    show some ((ls.map fun l => PyData.tuple (l.map .int)).any (fun q => PyData.eqv q (.tuple (l.map .int))), st) = _
    congr 2
    induction ls with
    | nil => rfl
    | cons x ls ih =>
      rw [List.map_cons, List.any_cons, eqv_ints]
      have ih2 : (ls.map fun l => PyData.tuple (l.map .int)).any (fun q => PyData.eqv q (.tuple (l.map .int))) = decide (l ∈ ls) := by
        clear ih h
        induction ls with
        | nil => rfl
        | cons y ls ih =>
          rw [List.map_cons, List.any_cons, eqv_ints, ih]
          by_cases e : y = l
          · simp [e]
          · simp [e, Ne.symm e]
      rw [ih2]
      by_cases e : x = l
      · simp [e]
      · simp [e, Ne.symm e]
  refine (run_some (m := (inRef (.tup (l.map .int)) m : M Bool)) e).trans ?_
  rfl
def mkMb (l : List Int) (x du : Str) : Mb := (l, x, du)
/-- members drawn so far -/
structure Ms (NM : List Str) (ms : List Mb) (i : Nat) : Prop where
  len : ms.length ≤ i
  ok : ∀ m ∈ ms, m.Ok NM
  nd : (ms.map (·.1)).Nodup
  s6 : ∀ m ∈ ms, m.1 ∈ six
def MIn (n g c T m P : Nat) (NM : List Str) (st0 : S) (i : Nat) (es : Es) (s : S) : Prop := ∃ o3 o4 o5 ms, es = [some (.ref n), some (.ref m), some (.ref P), o3, o4, o5] ∧ s[P]? = some (.lst (ms.map Mb.d)) ∧ Ms NM ms i ∧ Drw n g c (T + 3 * i) s ∧ Kp n g st0 s
theorem Kp.setNew {n g m : Nat} {a s : S} {o : O} (h : Kp n g a s) (hm : a.length ≤ m) : Kp n g a (s.set m o) := ⟨by simpa using h.1, fun i x h1 h2 e => by
  rw [List.getElem?_set_ne (by have := (List.getElem?_eq_some_iff.mp e).1; omega)]
  exact h.2 i x h1 h2 e⟩
theorem ptK_inj {a b : List Int} (h : ptK a = ptK b) : a = b := by
  induction a generalizing b with
  | nil =>
    cases b with
    | nil => rfl
    | cons y b => simp [ptK] at h
  | cons x a ih =>
    cases b with
    | nil => simp [ptK] at h
    | cons y b =>
      try simp only [ptK, List.map_cons, List.cons.injEq, Sum.inl.injEq] at h
      rw [h.1, ih h.2]
theorem nd_ptK {ms : List Mb} (h : (ms.map (·.1)).Nodup) : (ms.map fun m => ptK m.1).Nodup := by
  have : (ms.map fun m => ptK m.1) = (ms.map (·.1)).map ptK := by rw [List.map_map]; rfl
  rw [this]
  rw [List.nodup_iff_pairwise_ne] at h ⊢
  exact List.Pairwise.map _ (fun a b hab e => hab (ptK_inj e)) h
theorem some_members_ok (k n g c T m : Nat) (NM : List Str) (st : S) (h : Drw n g c T st) (hT : T ≤ 800000) (hm : st[m]? = some (.lst (NM.map .str))) (mn : m ≠ n) (mg : m ≠ g) (ns : Ns NM) : Rn (tb (k + 5) .F_law_some_members [.ref n, .ref m]) st fun d s => (∃ ms, d = .tup (ms.map Mb.d) ∧ Ms NM ms 3) ∧ Drw n g c (T + 10) s ∧ Kp n g st s := by
  rw [t_b__law_some_members]
  try simp [b__law_some_members, sz]
  have l1 := h.lt
  have l2 := h.ltc
  refine (draw_ok (k + 2) n g c T 4 (st ++ [.lst []]) (h.app _) (by omega) (by decide) (by decide)).mono fun d s ⟨⟨j, j0, j1, e⟩, h1, kp1⟩ => ?_
  subst e
  have hs : small62 j = true := by
    unfold small62
    try simp
    omega
  try simp [hs]
  have kp0 : Kp n g st s := (Kp.app ..).trans kp1
  have hP : s[st.length]? = some (.lst []) := kp1.2 _ _ (by omega) (by omega) gn
  refine run_for (ds := (List.range j.toNat).map fun (q : Nat) => D.int q) (MIn n g c (T + 1) m st.length NM st) (fun i es s _ => ?_) ?_ ?_ _ _ _ _ ?_ ?_ ?_
  · show (if i < j.toNat then Lap.got (.int (0 + i)) else Lap.stop) = _
    rw [List.getElem?_map]
    by_cases hi : i < j.toNat
    · rw [if_pos hi, List.getElem?_range hi]
      try simp [lapOf]
    · rw [if_neg hi, List.getElem?_eq_none (by simpa using hi)]
      rfl
  · rintro i d es s2 hd ⟨o3, o4, o5, ms, rfl, hP2, hM, h2, kp2⟩
    have hi : i < 3 := by
      have := (List.getElem?_eq_some_iff.mp hd).1
      try simp at this
      omega
    try simp
    refine (some_points_ok k n g c (T + 1 + 3 * i) s2 h2 (by omega)).mono fun y s3 ⟨⟨l, hl, e⟩, h3, kp3⟩ => ?_
    subst e
    have hP3 : s3[st.length]? = some (.lst (ms.map Mb.d)) := kp3.2 _ _ (by omega) (by omega) hP2
    try simp
    rw [run_live hP3]
    refine lcmap (ds := ms.map Mb.d) (fun c => match c with | .tup (p :: _) => p | _ => .non) (by have := hM.len; simp; omega) (fun ex i => live_at (ga hP3)) ?_ fun ex => ?_
    · rintro d hd ex
      obtain ⟨mb, hmb, rfl⟩ := List.mem_map.mp hd
      try simp [wipeE, Mb.d]
    · have e1 : ((ms.map Mb.d).map fun c => match c with | .tup (p :: _) => p | _ => .non) = (ms.map (·.1)).map fun l : List Int => D.tup (l.map .int) := by
        rw [List.map_map, List.map_map]
        rfl
      rw [e1, run_ninPts gn]
      generalize hB : decide (l ∈ ms.map (·.1)) = B
      have h4 : Drw n g c (T + 1 + 3 * i + 1) (s3 ++ ex ++ [.lst ((ms.map (·.1)).map fun l : List Int => D.tup (l.map .int))]) := (h3.app _).app _
      have kp4 : Kp n g st (s3 ++ ex ++ [.lst ((ms.map (·.1)).map fun l : List Int => D.tup (l.map .int))]) := ((kp2.trans kp3).trans (Kp.app ..)).trans (Kp.app ..)
      have hP4 : (s3 ++ ex ++ [O.lst ((ms.map (·.1)).map fun l : List Int => D.tup (l.map .int))])[st.length]? = some (.lst (ms.map Mb.d)) := ga (ga hP3)
      generalize s3 ++ ex ++ [O.lst ((ms.map (·.1)).map fun l : List Int => D.tup (l.map .int))] = s4 at h4 kp4 hP4 ⊢
      cases B with
      | true =>
        try simp
        exact ⟨_, _, _, ms, rfl, hP4, ⟨Nat.le_succ_of_le hM.len, hM.ok, hM.nd, hM.s6⟩, h4.up (by omega), kp4⟩
      | false =>
        try simp
        rw [run_isLst hP4]
        try simp
        refine (pick_ok (k + 1) n g c (T + 1 + 3 * i + 1) m (NM.map .str) s4 h4 (by omega) (kp4.2 _ _ mn mg hm) mn mg (by simpa using ns.pos) (by have := ns.le; simp; omega)).mono fun y s5 ⟨hy, h5, kp5⟩ => ?_
        obtain ⟨x, hx, rfl⟩ := List.mem_map.mp hy
        try simp [sz]
        refine (pickNew (k + 1) n g c (T + 1 + 3 * i + 2) [.str "asked", .str "asked", .str "allowed"] s5 h5 (by omega) (by simp) (by simp)).mono fun y s6 ⟨hy, h6, kp6⟩ => ?_
        obtain ⟨du, hdu, rfl⟩ : ∃ du : Str, (du = "asked" ∨ du = "allowed") ∧ y = .str du := by
          try simp at hy
          rcases hy with rfl | rfl
          · exact ⟨_, .inl rfl, rfl⟩
          · exact ⟨_, .inr rfl, rfl⟩
        have hP6 := kp6.2 _ _ (by omega) (by omega) (kp5.2 _ _ (by omega) (by omega) hP4)
        have pl : st.length < s6.length := (List.getElem?_eq_some_iff.mp hP6).1
        try simp [sz]
        rw [run_append hP6 (by have := hM.len; simp; omega)]
        refine ⟨_, _, _, ms ++ [mkMb l x du], rfl, ?_, ⟨by have := hM.len; simp; omega, fun q hq => ?_, ?_, fun q hq => ?_⟩, (h6.set (by omega) (by omega) (by omega)).up (by omega), ((kp4.trans kp5).trans kp6).setNew (Nat.le_refl _)⟩
        · rw [List.getElem?_set_self pl]
          rw [List.map_append]
          rfl
        · rcases List.mem_append.mp hq with hq | hq
          · exact hM.ok q hq
          · rw [List.mem_singleton.mp hq]
            exact ⟨six_pts l hl, hx, hdu⟩
        · rw [List.map_append, List.nodup_append]
          refine ⟨hM.nd, by simp, fun a ha b hb e => ?_⟩
          have hb' : b = l := List.mem_singleton.mp hb
          subst hb' e
          exact absurd ha (by simpa using hB)
        · rcases List.mem_append.mp hq with hq | hq
          · exact hM.s6 q hq
          · rw [List.mem_singleton.mp hq]
            exact hl
  · rintro es s2 ⟨o3, o4, o5, ms, rfl, hP2, hM, h2, kp2⟩
    try simp at hM h2
    try simp
    rw [run_tupR hP2]
    try simp
    exact ⟨⟨ms, rfl, ⟨by have := hM.len; omega, hM.ok, hM.nd, hM.s6⟩⟩, h2.up (by omega), kp2⟩
  · exact lt0 (by simp; omega)
  · exact Nat.zero_le _
  · exact ⟨_, _, _, [], rfl, hP, ⟨by simp, by simp, by simp, by simp⟩, by simpa using h1, kp0⟩
end K37


namespace K37
open PySem Mx
open L2 (Key)
theorem run_neLT {st : S} {Q : D → S → Prop} {n m : Nat} {l : List D} (ok : ∀ x ∈ l, Py 60 x) (h : st[n]? = some (.lst l)) (h2 : st[m]? = some (.lst [])) : Rn (neO (.ref n) (.ref m)) st Q = Q (.bl (!decide (l.length = 0))) st := by
  obtain ⟨ps, e, el⟩ := mapO_some (f := toPy st 63) (xs := l) fun x hx => (ok x hx).up (by decide)
  have e1 : toPy st 64 (.ref n) = some (.list ps) := by
    unfold toPy
    rw [h]
    show (match mapO (toPy st 63) l with | some ps => some (PyData.list ps) | none => none) = _
    rw [e]
  have e2 : toPy st 64 (.ref m) = some (.list []) := by
    unfold toPy
    rw [h2]
    rfl
  rw [run_neO, e1, e2]
  show Q (.bl (!PyData.eqv (.list ps) (.list []))) st = _
  cases l with
  | nil =>
    cases ps with
    | nil => rw [PyData.eqv, PyData.eqvAll]; simp
    | cons p ps => simp at el
  | cons x l =>
    cases ps with
    | nil => simp at el
    | cons p ps => rw [PyData.eqv, PyData.eqvAll]; simp
/-- tests of a kind, chosen from a list -/
def CSel (TS : List D) (kd : Str) (st : S) (i : Nat) (acc : List D) (s : S) : Prop := acc.length ≤ i ∧ (∀ t ∈ acc, t ∈ TS ∧ TestD t kd) ∧ ∃ ex, s = st ++ ex
/-- picks -/
def CPk (n g c T P : Nat) (xs : List D) (st : S) (i : Nat) (acc : List D) (s : S) : Prop := acc.length ≤ i ∧ (∀ t ∈ acc, t ∈ xs) ∧ s[P]? = some (.lst xs) ∧ Drw n g c (T + i) s ∧ Kp n g st s
theorem rng_at' {j : Int} {s : S} {i : Nat} : (Src.rng 0 j.toNat).at s i = lapOf ((List.range j.toNat).map fun (q : Nat) => D.int q)[i]? := by
  show (if i < j.toNat then Lap.got (.int (0 + i)) else Lap.stop) = _
  rw [List.getElem?_map]
  by_cases hi : i < j.toNat
  · rw [if_pos hi, List.getElem?_range hi]
    try simp [lapOf]
  · rw [if_neg hi, List.getElem?_eq_none (by simpa using hi)]
    rfl
theorem kd_eq {a b : Str} (ha : a = "number" ∨ a = "string") (hb : b = "number" ∨ b = "string") : ∃ B : Bool, (B = true → a = b) ∧ ∀ {st : S} {Q : D → S → Prop}, Rn (eqO (.str a) (.str b)) st Q = Q (.bl B) st := by
  rcases ha with rfl | rfl
  · rcases hb with rfl | rfl
    · exact ⟨true, fun _ => rfl, by simp⟩
    · exact ⟨false, fun h => (nomatch h), by simp⟩
  · rcases hb with rfl | rfl
    · exact ⟨false, fun h => (nomatch h), by simp⟩
    · exact ⟨true, fun _ => rfl, by simp⟩
theorem TestD.k2 {d : D} {kd : Str} (h : TestD d kd) : kd = "number" ∨ kd = "string" := by
  obtain ⟨s, v, _, hs, hv⟩ := h
  cases hv with
  | num a t h => exact .inl rfl
  | str l h => exact .inr rfl
theorem some_case_ok (k n g c T m q : Nat) (NM : List Str) (TS : List D) (st : S) (h : Drw n g c T st) (hT : T ≤ 700000) (hm : st[m]? = some (.lst (NM.map .str))) (mn : m ≠ n) (mg : m ≠ g) (hq : st[q]? = some (.lst TS)) (qn : q ≠ n) (qg : q ≠ g) (hl : TS.length ≤ 4) (ht : ∀ t ∈ TS, ∃ kd, TestD t kd) (ns : Ns NM) : Rn (tb (k + 20) .F_law_some_case [.ref n, .ref m, .ref q]) st fun d s => GoodCase NM TS d ∧ Drw n g c (T + 40) s ∧ Kp n g st s := by
  rw [t_b__law_some_case]
  try simp [b__law_some_case]
  have l1 := h.lt
  have l2 := h.ltc
  refine (draw_ok (k + 17) n g c T 10 st h (by omega) (by decide) (by decide)).mono fun d s ⟨⟨j, j0, j1, e⟩, h1, kp1⟩ => ?_
  subst e
  have hm1 := kp1.2 _ _ mn mg hm
  have hq1 := kp1.2 _ _ qn qg hq
  by_cases c2 : j < 2
  · simp [c2, sz]
    refine (pickNew (k + 16) n g c (T + 1) [.str "null", .str "true", .str "false"] s h1 (by omega) (by simp) (by simp)).mono fun y s2 ⟨hy, h2, kp2⟩ => ?_
    try simp [sz]
    refine ⟨?_, h2.up (by omega), kp1.trans kp2⟩
    try simp at hy
    rcases hy with rfl | rfl | rfl
    · exact .word _ (.inl rfl)
    · exact .word _ (.inr (.inl rfl))
    · exact .word _ (.inr (.inr rfl))
  by_cases c5 : j < 5
  · simp [c2, c5, sz]
    refine (pickNew (k + 16) n g c (T + 1) [.str "number", .str "string"] s h1 (by omega) (by simp) (by simp)).mono fun y s2 ⟨hy, h2, kp2⟩ => ?_
    obtain ⟨kd, hk, rfl⟩ : ∃ kd : Str, (kd = "number" ∨ kd = "string") ∧ y = .str kd := by
      try simp at hy
      rcases hy with rfl | rfl
      · exact ⟨_, .inl rfl, rfl⟩
      · exact ⟨_, .inr rfl, rfl⟩
    have hm2 := kp2.2 _ _ mn mg hm1
    have hq2 := kp2.2 _ _ qn qg hq1
    try simp
    rw [run_live hq2]
    refine run_lapC (ds := TS) (CSel TS kd s2) (fun i acc s3 ⟨_, _, ex, e⟩ => live_at (by rw [e]; exact ga hq2)) ?_ ?_ _ _ _ _ ?_ ?_ ?_
    · rintro i d acc s3 hd ⟨a1, a2, ex, rfl⟩
      have hdm := List.mem_of_getElem? hd
      have hi := (List.getElem?_eq_some_iff.mp hd).1
      obtain ⟨kd2, ht2⟩ := ht d hdm
      obtain ⟨sg, r, e⟩ := ht2.kind
      subst e
      try simp [wipeE]
      obtain ⟨B, hB1, hB2⟩ := kd_eq ht2.k2 hk
      rw [hB2]
      cases B with
      | true =>
        have e := hB1 rfl
        subst e
        try simp
        refine ⟨sz3 (by omega), by simp; omega, fun t h => ?_, ex, rfl⟩
        rcases List.mem_append.mp h with h | h
        · exact a2 t h
        · rw [List.mem_singleton.mp h]
          exact ⟨hdm, ht2⟩
      | false =>
        try simp
        exact ⟨by omega, a2, ex, rfl⟩
    · rintro acc s3 ⟨a1, a2, ex, rfl⟩
      have h3 : Drw n g c (T + 2) (s2 ++ ex ++ [.lst acc]) := (h2.app _).app _
      have kp3 : Kp n g st (s2 ++ ex ++ [.lst acc]) := ((kp1.trans kp2).trans (Kp.app ..)).trans (Kp.app ..)
      have hP : (s2 ++ ex ++ [O.lst acc])[(s2 ++ ex).length]? = some (.lst acc) := gn
      have ln := h.lt
      have lP : st.length ≤ (s2 ++ ex).length := by
        have := (kp1.trans kp2).1
        try simp
        omega
      generalize (s2 ++ ex).length = P at hP lP ⊢
      generalize s2 ++ ex ++ [O.lst acc] = s3 at h3 kp3 hP ⊢
      try simp [sz]
      rw [run_neLT (fun x hx => (Py.test (a2 x hx).2).mono (by decide)) (ga hP) (by simp)]
      by_cases ha : acc.length = 0
      · simp [ha, sz]
        exact ⟨.tests kd [] hk (by simp) (by simp), (h3.app _).up (by omega), kp3.trans (Kp.app ..)⟩
      · simp [ha, sz]
        refine (draw_ok (k + 17) n g c (T + 2) 3 (s3 ++ [.lst []]) (h3.app _) (by omega) (by decide) (by decide)).mono fun d s4 ⟨⟨j2, j3, j4, e⟩, h4, kp4⟩ => ?_
        subst e
        have hs : small62 j2 = true := by
          unfold small62
          try simp
          omega
        have hP4 := kp4.2 _ _ (by omega) (by omega) (ga hP)
        try simp [hs]
        refine run_lapC (ds := (List.range j2.toNat).map fun (q : Nat) => D.int q) (CPk n g c (T + 3) P acc s4) (fun i ac s5 _ => rng_at') ?_ ?_ _ _ _ _ ?_ ?_ ?_
        · rintro i d ac s5 hd ⟨b1, b2, b3, b4, b5⟩
          have hi : i < 2 := by
            have := (List.getElem?_eq_some_iff.mp hd).1
            try simp at this
            omega
          try simp [wipeE]
          refine (pick_ok (k + 16) n g c (T + 3 + i) P acc s5 b4 (by omega) b3 (by omega) (by omega) (by omega) (by omega)).mono fun y s6 ⟨hy, h6, kp6⟩ => ?_
          refine ⟨sz3 (by omega), by simp; omega, fun t h => ?_, kp6.2 _ _ (by omega) (by omega) b3, h6, b5.trans kp6⟩
          rcases List.mem_append.mp h with h | h
          · exact b2 t h
          · rw [List.mem_singleton.mp h]
            exact hy
        · rintro ac s5 ⟨b1, b2, b3, b4, b5⟩
          try simp at b1
          try simp [-List.length_append, sz, run_tupI]
          exact ⟨.tests kd ac hk (by omega) (fun t h => a2 t (b2 t h)), (b4.app _).up (by simp; omega), (((kp3.trans (Kp.app ..)).trans kp4).trans b5).trans (Kp.app ..)⟩
        · exact lt0 (by simp; omega)
        · exact Nat.zero_le _
        · exact ⟨by simp, by simp, hP4, by simpa using h4, Kp.refl ..⟩
    · exact lt0 (by omega)
    · exact Nat.zero_le _
    · exact ⟨by simp, by simp, [], by simp⟩
  by_cases c8 : j < 8
  · simp [c2, c5, c8, sz]
    refine (some_ok n g c m NM ns.pos (by have := ns.le; omega) mn mg 3 (k + 19) (T + 1) s h1 hm1 (by omega) (by simp [Bd]; omega)).mono fun d s2 ⟨p, e, p1, p2, h2, kp2⟩ => ?_
    subst e
    try simp [sz]
    exact ⟨.arr p (by simpa using p1) p2, h2.up (by simp [Bd]), kp1.trans kp2⟩
  · simp [c2, c5, c8, sz]
    refine (some_members_ok (k + 14) n g c (T + 1) m NM s h1 (by omega) hm1 mn mg ns).mono fun d s2 ⟨⟨ms, e, hM⟩, h2, kp2⟩ => ?_
    subst e
    have hm2 := kp2.2 _ _ mn mg hm1
    try simp [sz]
    have eadd : ∀ {Q : D → S → Prop}, Rn (binD .Add (.ref s2.length) (.ref m)) (s2 ++ [.lst [.non, .non]]) Q = Q (.ref (s2.length + 1)) (s2 ++ [.lst [.non, .non]] ++ [.lst ([.non, .non] ++ NM.map .str)]) := fun {Q} => by
      show Rn (lstAt s2.length >>= _) _ Q = _
      rw [run_bind, run_lstAt gn]
      show Rn (lstAt m >>= _) _ Q = _
      rw [run_bind, run_lstAt (ga hm2)]
      show Rn (guardM _ >>= _) _ Q = _
      rw [run_bind, run_guard, decide_eq_true_eq]
      have := ns.le
      try simp only [sz (n := ([D.non, D.non] : List D).length + (NM.map D.str).length) (by simp; omega), true_and]
      show Q (.ref (s2 ++ [O.lst [.non, .non]]).length) _ = _
      try simp
    rw [eadd]
    try simp
    have e2 : s2.length + 1 = (s2 ++ [O.lst [.non, .non]]).length := by simp
    rw [e2]
    refine (pickNew (k + 16) n g c (T + 11) ([.non, .non] ++ NM.map .str) (s2 ++ [O.lst [.non, .non]]) ((h2.app _).up (by omega)) (by omega) (by simp) (by have := ns.le; simp; omega)).mono fun y s3 ⟨hy, h3, kp3⟩ => ?_
    try simp [sz]
    refine ⟨.obj ms y (by have := hM.len; omega) hM.ok (nd_ptK hM.nd) hM.s6 ?_, h3.up (by omega), (kp1.trans kp2).trans ((Kp.app ..).trans kp3)⟩
    rcases List.mem_append.mp hy with hy | hy
    · left
      simpa using hy
    · obtain ⟨x, hx, rfl⟩ := List.mem_map.mp hy
      exact .inr ⟨x, hx, rfl⟩
end K37


namespace K37
open PySem Mx
open L2 (Key)
/-! ### a drawn book -/
theorem nin_deep {st : S} {m : Nat} {d : D} {ys : List D} (h : st[m]? = some (.lst ys)) (hf : flatD d = false) (hd : Py 60 d) (hy : ∀ y ∈ ys, Py 60 y) : ∃ B : Bool, ∀ {Q : D → S → Prop}, Rn (ninO d (.ref m)) st Q = Q (.bl B) st := by
  obtain ⟨p, e1⟩ := hd
  have e1 : toPy st 64 d = some p := toPy_pure e1 (by decide)
  obtain ⟨qs, e2, _⟩ := mapO_some (f := toPy st 63) (xs := ys) fun x hx => (hy x hx).up (by decide)
  refine ⟨!(qs.any fun q => PyData.eqv q p), fun {Q} => ?_⟩
  unfold ninO
  rw [run_blM, run_bind]
  have e : inRef d m st = some (qs.any fun q => PyData.eqv q p, st) := by
    unfold inRef
    rw [h]
    try simp only [hf, Bool.false_and]
    show inDeep d ys st = _
    unfold inDeep
    rw [e1, e2]
  refine (run_some (m := (inRef d m : M Bool)) e).trans ?_
  rfl
theorem cut_take {xs : List D} {j : Int} (h0 : 0 ≤ j) (h1 : j ≤ xs.length) : cutD xs none (some j) = xs.take j.toNat := by
  unfold cutD HT.sIx
  try simp [show ¬ j < 0 by omega]
theorem run_slTo {st : S} {Q : D → S → Prop} {n : Nat} {xs : List D} {j : Int} (h : st[n]? = some (.lst xs)) (h0 : 0 ≤ j) (h1 : j ≤ xs.length) : Rn (slD (.ref n) none (some j)) st Q = Q (.ref st.length) (st ++ [.lst (xs.take j.toNat)]) := by
  show Rn (lstAt n >>= _) st Q = _
  rw [run_bind, run_lstAt h]
  show Q (.ref st.length) (st ++ [.lst (cutD xs none (some j))]) = _
  rw [cut_take h0 h1]
theorem run_addR {st : S} {Q : D → S → Prop} {n m : Nat} {xs ys : List D} (h : st[n]? = some (.lst xs)) (h2 : st[m]? = some (.lst ys)) (hl : xs.length + ys.length ≤ 1000) : Rn (binD .Add (.ref n) (.ref m)) st Q = Q (.ref st.length) (st ++ [.lst (xs ++ ys)]) := by
  show Rn (lstAt n >>= _) _ Q = _
  rw [run_bind, run_lstAt h]
  show Rn (lstAt m >>= _) _ Q = _
  rw [run_bind, run_lstAt h2]
  show Rn (guardM _ >>= _) _ Q = _
  rw [run_bind, run_guard, decide_eq_true_eq]
  try simp only [sz hl, true_and]
  rfl
theorem TestD.tup {d : D} {kd : Str} (h : TestD d kd) : flatD d = false := by
  obtain ⟨s, r, rfl⟩ := h.kind
  rfl
def TLp (n g c T F fd : Nat) (NM : List Str) (st0 : S) (i : Nat) (es : Es) (s : S) : Prop := ∃ o5 o6 o7 r TS, es = [some (.ref n), some (.int 3), some (.ref F), some (.ref r), some (.ref fd), o5, o6, o7] ∧ s[r]? = some (.lst TS) ∧ st0.length ≤ r ∧ TS.length ≤ i ∧ (∀ t ∈ TS, ∃ kd, TestD t kd) ∧ s[F]? = some (.lst (NM.map .str)) ∧ s[fd]? = some (.dic []) ∧ Drw n g c (T + 4 * i) s ∧ Kp n g st0 s
def BLp (n g c T F r fd : Nat) (NM : List Str) (TS : List D) (st0 : S) (i : Nat) (es : Es) (s : S) : Prop := ∃ o5 o6 o7 bk, es = [some (.ref n), some (.int 3), some (.ref F), some (.ref r), some (.ref fd), o5, o6, o7] ∧ s[r]? = some (.lst TS) ∧ s[F]? = some (.lst (NM.map .str)) ∧ s[fd]? = some (.dic (kvB bk)) ∧ bk.map (·.1) = NM.take i ∧ (∀ p ∈ bk, ∃ cs : List D, p.2 = .tup cs ∧ cs.length ≤ 3 ∧ ∀ c ∈ cs, GoodCase NM TS c) ∧ Drw n g c (T + 130 * i) s ∧ Kp n g st0 s
def CCs (n g c T : Nat) (NM : List Str) (TS : List D) (st0 : S) (i : Nat) (acc : List D) (s : S) : Prop := acc.length ≤ i ∧ (∀ c ∈ acc, GoodCase NM TS c) ∧ Drw n g c (T + 40 * i) s ∧ Kp n g st0 s
theorem small_of {j : Int} (h : 0 ≤ j) (h2 : j ≤ 1000) : small62 j = true := by
  unfold small62
  try simp
  omega
theorem tests_lap (k n g c T F fd : Nat) (NM : List Str) (st0 : S) (hF : st0.length ≤ F) (hfd : st0.length ≤ fd) (h0 : n < st0.length ∧ g < st0.length) (i : Nat) (hi : i < 4) (hT : T ≤ 100000) (d : D) (es : Es) (s : S) (h : TLp n g c T F fd NM st0 i es s) :
    Rn (nameG 5 d es) s fun e s2 => Rn (seqS (asgS (callD (tb (k + 20) .F_law_some_test) (consA (varD 0) (consA (callD (tb (k + 20) .F_law_pick) (consA (varD 0) (consA (lstD (consA (cD (.str "number")) (consA (cD (.str "string")) (nilA)))) (nilA)))) (nilA)))) (nameG 6)) (asgS (opD (binD .Add) (varD 3) (ifD (tstD (opD ninO (varD 6) (varD 3))) (lstD (consA (varD 6) (nilA))) (lstD (nilA)))) (nameG 3)) e) s2 fun p s3 => p.2 = .nx ∧ TLp n g c T F fd NM st0 (i + 1) p.1 s3 := by
  obtain ⟨o5, o6, o7, r, TS, rfl, hr, lr, hl, ht, hF1, hfd1, hD, kp⟩ := h
  try simp [sz]
  refine (pickNew (k + 17) n g c (T + 4 * i) [.str "number", .str "string"] s hD (by omega) (by simp) (by simp)).mono fun y s2 ⟨hy, h2, kp2⟩ => ?_
  obtain ⟨kd, hk, rfl⟩ : ∃ kd : Str, (kd = "number" ∨ kd = "string") ∧ y = .str kd := by
    try simp at hy
    rcases hy with rfl | rfl
    · exact ⟨_, .inl rfl, rfl⟩
    · exact ⟨_, .inr rfl, rfl⟩
  try simp
  refine (some_test_ok (k + 16) n g c (T + 4 * i + 1) kd hk s2 h2 (by omega)).mono fun t s3 ⟨htest, h3, kp3⟩ => ?_
  have kp23 := kp2.trans kp3
  have hr3 := kp23.2 _ _ (by omega) (by omega) hr
  have hF3 := kp23.2 _ _ (by omega) (by omega) hF1
  have hfd3 := kp23.2 _ _ (by omega) (by omega) hfd1
  try simp
  obtain ⟨B, hB⟩ := nin_deep hr3 htest.tup ((Py.test htest).mono (by decide)) fun y hy => by
    obtain ⟨kd2, h4⟩ := ht y hy
    exact (Py.test h4).mono (by decide)
  rw [hB]
  have fin : ∀ ys : List D, ys.length ≤ 1 → (∀ y ∈ ys, y = t) → Rn (binD .Add (.ref r) (.ref s3.length)) (s3 ++ [.lst ys]) fun x s4 => TLp n g c T F fd NM st0 (i + 1) [some (.ref n), some (.int 3), some (.ref F), some x, some (.ref fd), some d, some t, o7] s4 := fun ys hy1 hy2 => by
    rw [run_addR (ga hr3) gn (by omega)]
    refine ⟨_, _, _, _, TS ++ ys, rfl, gn, ?_, by simp; omega, fun x hx => ?_, ga (ga hF3), ga (ga hfd3), ((h3.app _).app _).up (by omega), ((kp.trans kp23).trans (Kp.app ..)).trans (Kp.app ..)⟩
    · have := (kp.trans kp23).1
      try simp
      omega
    · rcases List.mem_append.mp hx with hx | hx
      · exact ht x hx
      · rw [hy2 x hx]
        exact ⟨kd, htest⟩
  cases B with
  | true =>
    try simp [sz]
    refine (fin [t] (by simp) (by simp)).mono fun x s4 h => ?_
    simpa using h
  | false =>
    try simp [sz]
    refine (fin [] (by simp) (by simp)).mono fun x s4 h => ?_
    simpa using h
theorem book_lap (k n g c T F r fd : Nat) (NM : List Str) (TS : List D) (st0 : S) (hF : st0.length ≤ F) (hr0 : st0.length ≤ r) (hfd : st0.length ≤ fd) (hne : fd ≠ F ∧ fd ≠ r) (h0 : n < st0.length ∧ g < st0.length ∧ c < st0.length) (ns : Ns NM) (tl : TS.length ≤ 4) (ht : ∀ t ∈ TS, ∃ kd, TestD t kd) (i : Nat) (x : Str) (hx : NM[i]? = some x) (hT : T ≤ 100000) (es : Es) (s : S) (h : BLp n g c T F r fd NM TS st0 i es s) :
    Rn (nameG 7 (.str x) es) s fun e s2 => Rn (asgS (callD (on1 tupleD) (consA (lcD L0 [5] (rng1S (callD (tb (k + 20) .F_law_pick) (consA (varD 0) (consA (lstD (consA (cD (.int 1)) (consA (cD (.int 2)) (consA (cD (.int 3)) (consA (cD (.int 1)) (consA (cD (.int 2)) (consA (cD (.int 0)) (nilA)))))))) (nilA))))) (nameG 5) (yesT) (callD (tb (k + 20) .F_law_some_case) (consA (varD 0) (consA (varD 2) (consA (varD 3) (nilA)))))) (nilA))) (subG (varD 4) (varD 7)) e) s2 fun p s3 => p.2 = .nx ∧ BLp n g c T F r fd NM TS st0 (i + 1) p.1 s3 := by
  obtain ⟨o5, o6, o7, bk, rfl, hr, hF1, hfd1, hk, hv, hD, kp⟩ := h
  have hi : i < 3 := by
    have := (List.getElem?_eq_some_iff.mp hx).1
    have := ns.le
    omega
  try simp [sz]
  refine (pickNew (k + 17) n g c (T + 130 * i) [.int 1, .int 2, .int 3, .int 1, .int 2, .int 0] s hD (by omega) (by simp) (by simp)).mono fun y s2 ⟨hy, h2, kp2⟩ => ?_
  obtain ⟨j, j0, j1, rfl⟩ : ∃ j : Int, 0 ≤ j ∧ j ≤ 3 ∧ y = .int j := by
    try simp at hy
    rcases hy with rfl | rfl | rfl | rfl | rfl | rfl
    all_goals exact ⟨_, by decide, by decide, rfl⟩
  have hr2 := kp2.2 _ _ (by omega) (by omega) hr
  have hF2 := kp2.2 _ _ (by omega) (by omega) hF1
  have hfd2 := kp2.2 _ _ (by omega) (by omega) hfd1
  try simp [small_of j0 (by omega)]
  refine run_lapC (ds := (List.range j.toNat).map fun (q : Nat) => D.int q) (CCs n g c (T + 130 * i + 1) NM TS s2) (fun i ac s5 _ => rng_at') ?_ ?_ _ _ _ _ ?_ ?_ ?_
  · rintro q d ac s3 hd ⟨b1, b2, b3, b4⟩
    have hq : q < 3 := by
      have := (List.getElem?_eq_some_iff.mp hd).1
      try simp at this
      omega
    try simp [wipeE]
    refine (some_case_ok k n g c (T + 130 * i + 1 + 40 * q) F r NM TS s3 b3 (by omega) (b4.2 _ _ (by omega) (by omega) hF2) (by omega) (by omega) (b4.2 _ _ (by omega) (by omega) hr2) (by omega) (by omega) tl ht ns).mono fun y s4 ⟨hg, h4, kp4⟩ => ?_
    refine ⟨sz3 (by omega), by simp; omega, fun t h => ?_, h4.up (by omega), b4.trans kp4⟩
    rcases List.mem_append.mp h with h | h
    · exact b2 t h
    · rw [List.mem_singleton.mp h]
      exact hg
  · rintro ac s3 ⟨b1, b2, b3, b4⟩
    try simp at b1 b3
    have hfd3 := b4.2 _ _ (by omega) (by omega) hfd2
    have hr3 := b4.2 _ _ (by omega) (by omega) hr2
    have hF3 := b4.2 _ _ (by omega) (by omega) hF2
    have hnx : x ∉ bk.map (·.1) := by
      rw [hk]
      exact not_take ns.nd hx
    have bl : bk.length ≤ 3 := by
      have := congrArg List.length hk
      rw [List.length_map, List.length_take] at this
      have := ns.le
      omega
    try simp [-List.length_append, run_tupI]
    rw [run_setS (ga hfd3) (by unfold kvB; rw [List.length_map]; omega)]
    have kn : (Sum.inr x : Key) ∉ (kvB bk).map (·.1) := fun z => by
      obtain ⟨q, hq, e⟩ := List.mem_map.mp z
      obtain ⟨p, hp, rfl⟩ := List.mem_map.mp hq
      exact hnx (List.mem_map.mpr ⟨p, hp, Sum.inr.inj e⟩)
    rw [put_off kn]
    have pl : fd < (s3 ++ [O.lst ac]).length := (List.getElem?_eq_some_iff.mp (ga hfd3)).1
    refine ⟨rfl, _, _, _, bk ++ [(x, .tup ac)], rfl, ?_, ?_, ?_, ?_, fun p hp => ?_, ((b3.app _).set (by omega) (by omega) (by omega)).up (by omega), (((kp.trans kp2).trans b4).trans (Kp.app ..)).setNew hfd⟩
    · rw [List.getElem?_set_ne hne.2]
      exact ga hr3
    · rw [List.getElem?_set_ne hne.1]
      exact ga hF3
    · rw [List.getElem?_set_self pl]
      unfold kvB
      try simp
    · rw [List.map_append, hk, List.take_add_one, hx]
      rfl
    · rcases List.mem_append.mp hp with hp | hp
      · exact hv p hp
      · rw [List.mem_singleton.mp hp]
        exact ⟨ac, rfl, by omega, b2⟩
  · exact lt0 (by simp; omega)
  · exact Nat.zero_le _
  · exact ⟨by simp, by simp, by simpa using h2, Kp.refl ..⟩
end K37


namespace K37
open PySem Mx
open L2 (Key)
def BookO (n g c T : Nat) (st : S) (d : D) (s : S) : Prop := ∃ fd bk TS, d = .ref fd ∧ GBk bk TS ∧ s[fd]? = some (.dic (kvB bk)) ∧ st.length ≤ fd ∧ Drw n g c T s ∧ Kp n g st s
theorem some_book_ok (k n g c T : Nat) (st : S) (h : Drw n g c T st) (hT : T ≤ 90000) : Rn (tb (k + 21) .F_law_some_book [.ref n, .int 3]) st (BookO n g c (T + 500) st) := by
  rw [t_b__law_some_book]
  have l1 := h.lt
  have l2 := h.ltc
  try simp [b__law_some_book, sz]
  refine (shuffled_ok (k + 17) n g c T st.length eight8 (st ++ [.lst (eight8.map .str)]) (h.app _) gn (fun x hx => (eight_ok x (eight_sub x hx)).1) (by decide) (by simp [eight8]; omega)).mono fun d s ⟨F0, f, e, lF, hF0, hp, h1, kp1⟩ => ?_
  subst e
  try simp
  refine (draw_ok (k + 18) n g c (T + 8) 3 s h1 (by omega) (by decide) (by decide)).mono fun d s2 ⟨⟨j, j0, j1, e⟩, h2, kp2⟩ => ?_
  subst e
  have kp0 : Kp n g st s := (Kp.app ..).trans kp1
  have hl0 : st.length ≤ F0 := by
    have : (st ++ [O.lst (eight8.map .str)]).length ≤ F0 := lF
    try simp at this
    omega
  have hF2 := kp2.2 _ _ (by omega) (by omega) hF0
  have hfl : f.length = 8 := by rw [hp.length_eq]; rfl
  try simp
  rw [run_slTo hF2 (by omega) (by simp; omega)]
  have eN : (f.map D.str).take (1 + j).toNat = (f.take (1 + j).toNat).map .str := List.map_take.symm
  rw [eN]
  have ns : Ns (f.take (1 + j).toNat) := ⟨fun x hx => eight_sub x (hp.mem_iff.mp (List.mem_of_mem_take hx)), (hp.nodup_iff.mpr (by decide +kernel)).sublist (List.take_sublist ..), by rw [List.length_take]; omega, by rw [List.length_take]; omega⟩
  generalize f.take (1 + j).toNat = NM at ns ⊢
  try simp [sz]
  have ls2 : st.length ≤ s2.length := Nat.le_trans kp0.1 kp2.1
  have h3 : Drw n g c (T + 9) (s2 ++ [O.lst (NM.map .str), O.lst [], O.dic []]) := (h2.app _).up (by omega)
  have kp3 : Kp n g st (s2 ++ [O.lst (NM.map .str), O.lst [], O.dic []]) := (kp0.trans kp2).trans (Kp.app ..)
  have g1 : (s2 ++ [O.lst (NM.map .str), O.lst [], O.dic []])[s2.length]? = some (.lst (NM.map .str)) := by simp
  have g2 : (s2 ++ [O.lst (NM.map .str), O.lst [], O.dic []])[s2.length + 1]? = some (.lst []) := by simp
  have g3 : (s2 ++ [O.lst (NM.map .str), O.lst [], O.dic []])[s2.length + 2]? = some (.dic []) := by simp
  rw [show s2 ++ [O.lst (NM.map .str)] ++ [O.lst []] ++ [O.dic []] = s2 ++ [O.lst (NM.map .str), O.lst [], O.dic []] by simp]
  generalize s2 ++ [O.lst (NM.map .str), O.lst [], O.dic []] = s3 at h3 kp3 g1 g2 g3 ⊢
  generalize hF : s2.length = F at g1 g2 g3 ls2 ⊢
  refine (draw_ok (k + 18) n g c (T + 9) 4 s3 h3 (by omega) (by decide) (by decide)).mono fun d s4 ⟨⟨j2, j3, j4, e⟩, h4, kp4⟩ => ?_
  subst e
  have hs : small62 (1 + j2) = true := small_of (by omega) (by omega)
  try simp [hs]
  refine run_for (ds := (List.range (1 + j2).toNat).map fun (q : Nat) => D.int q) (TLp n g c (T + 10) F (F + 2) NM st) (fun i es s _ => rng_at') ?_ ?_ _ _ _ _ ?_ ?_ ?_
  · rintro i d es s hd hI
    have hi : i < 4 := by
      have := (List.getElem?_eq_some_iff.mp hd).1
      try simp at this
      omega
    have := tests_lap k n g c (T + 10) F (F + 2) NM st ls2 (by omega) l1 i hi (by omega) d es s hI
    refine this.mono fun e s2 h => h.mono fun p s3 ⟨h1, h2⟩ => ?_
    rw [h1]
    exact h2
  · rintro es s ⟨o5, o6, o7, r, TS, rfl, hr, lr, hl, ht, hF1, hfd1, hD, kp⟩
    try simp at hl hD
    try simp
    rw [run_live hF1]
    have rF : F + 2 ≠ r := fun e => by
      rw [← e, hfd1] at hr
      cases hr
    refine run_for (ds := NM.map .str) (BLp n g c (T + 26) F r (F + 2) NM TS st) (fun i es s ⟨_, _, _, _, _, _, e, _⟩ => live_at e) ?_ ?_ _ _ _ _ ?_ ?_ ?_
    · rintro i d es s hd hI
      rw [List.getElem?_map] at hd
      obtain ⟨x, hx, rfl⟩ := Option.map_eq_some_iff.mp hd
      have := book_lap k n g c (T + 26) F r (F + 2) NM TS st ls2 lr (by omega) ⟨by omega, rF⟩ ⟨l1.1, l1.2, l2⟩ ns (by omega) ht i x hx (by omega) es s hI
      refine this.mono fun e s2 h => h.mono fun p s3 ⟨h1, h2⟩ => ?_
      rw [h1]
      exact h2
    · rintro es s ⟨o5, o6, o7, bk, rfl, hr, hF1, hfd1, hk, hv, hD, kp⟩
      have hn := ns.le
      try simp at hk hD
      try simp only [run_ret, run_var, List.getElem?_cons_zero, List.getElem?_cons_succ]
      subst hk
      exact ⟨F + 2, bk, TS, rfl, ⟨ns, hv, ht, by omega⟩, hfd1, by omega, hD.up (by omega), kp⟩
    · exact lt0 (by have := ns.le; simp; omega)
    · exact Nat.zero_le _
    · exact ⟨_, _, _, [], rfl, hr, hF1, hfd1, by simp, by simp, hD.up (by omega), kp⟩
  · exact lt0 (by simp; omega)
  · exact Nat.zero_le _
  · exact ⟨_, _, _, F + 1, [], rfl, kp4.2 _ _ (by omega) (by omega) g2, by omega, by simp, by simp, kp4.2 _ _ (by omega) (by omega) g1, kp4.2 _ _ (by omega) (by omega) g3, by simpa using h4, kp3.trans kp4⟩
end K37


namespace K37
open PySem Mx
open L2 (Key)
/-! ### a bent book -/
def NM2 : D := NumV 1 0
/-- the things put into cases, the lists at a, b, c' -/
def bads (x : Str) (a b c' : Nat) : List D := [.non, .tup [], .tup [.str "nulls"], .tup [.str "null", .int 1], .tup [.str "number"], .tup [.str "number", .ref a], .tup [.str "number", .tup [lt1 (StrV [])]], .tup [.str "string", .tup [lt1 (NumV 1 0)]], .tup [.str "array"], .ref b, .tup [.str "array", .tup [.str "item", .str "nobody"]], .tup [.str "object", .tup [], .str "nobody"], .tup [.str "object", .tup [.tup [.tup [.int 97], .str x, .str "must"]], .non], .tup [.str "object", .tup [.tup [.tup [.int 97], .str x]], .non], .tup [.str "object", .tup [.tup [.tup [.int 97], .str x, .str "asked"], .tup [.tup [.int 97], .str x, .str "allowed"]], .non], .tup [.str "object", .tup [.ref c', .str x, .str "asked"], .non], .tup [.str "object", .tup [], .non, .non], .tup [.str "true", .tup []]]
theorem bads_no {st : S} {b0 : Nat} {NM : List Str} (hs : Ns NM) (hN : Nms st b0 NM) {x : Str} (hx : x ∈ NM) {a b c' : Nat} (ha : st[a]? = some (.lst [lt1 (NumV 1 0)])) (hb : st[b]? = some (.lst [.str "null"])) (hc : st[c']? = some (.lst [.int 97])) {d : D} (hd : d ∈ bads x a b c') : NoC b0 st d := by
  try simp only [bads, List.mem_cons, List.not_mem_nil, or_false] at hd
  rcases hd with rfl | rfl | rfl | rfl | rfl | rfl | rfl | rfl | rfl | rfl | rfl | rfl | rfl | rfl | rfl | rfl | rfl | rfl
  · exact no_1 b0
  · exact no_2 b0
  · exact no_3 b0
  · exact no_4 b0
  · exact no_5 b0
  · exact no_6 b0 a ha
  · exact no_7 b0
  · exact no_8 b0
  · exact no_9 b0
  · exact no_10 b0 b _ hb
  · exact no_11 b0 hs hN
  · exact no_12 b0 hs hN
  · exact no_13 b0 hs hN hx
  · exact no_14 b0 hs hN hx
  · exact no_15 b0 hs hN hx
  · exact no_16 b0 c' hs hx hc
  · exact no_17 b0
  · exact no_18 b0
@[simp] theorem run_binT {st : S} {Q : D → S → Prop} {a b : List D} : Rn (binD .Add (.tup a) (.tup b)) st Q = (a.length + b.length ≤ sizeLine ∧ Q (.tup (a ++ b)) st) := run_addT
theorem run_setQ {st : S} {n : Nat} {q : Key} {d : D} {kvs : List (Key × D)} {QU : Unit → S → Prop} (h : st[n]? = some (.dic kvs)) (hl : kvs.length ≤ 1000) : Rn (setD (.ref n) (kD q) d) st QU = QU () (st.set n (.dic (put kvs q d))) := run_some (by
  show setRef n (kD q) d st = _
  unfold setRef
  rw [h]
  have e : keyD (kD q) = some q := by cases q <;> rfl
  show (match keyD (kD q) with | some k => if kvs.length < sizeLine then some ((), st.set n (.dic (put kvs k d))) else none | none => none) = _
  rw [e]
  try dsimp only
  rw [if_pos (sz3 (by omega))])
def prs (x : Str) (cs : List D) (bad : D) (l1 : Nat) : List (Key × D) := [(.inr x, .tup (cs ++ [bad])), (.inr x, .ref l1), (.inl 5, .tup []), (.inr "Up", .tup []), (.inr "", .tup []), (.inr x, .non)]
theorem up_no : nameB "Up" = false ∧ nameB "" = false ∧ ("Up" : Str).length ≤ 1000 ∧ ("" : Str).length ≤ 1000 ∧ ("Up" : Str) ∉ eight ∧ ("" : Str) ∉ eight := by decide +kernel
theorem keys_no {s : S} {t : Nat} {bk : List (Str × D)} {TS : List D} (g : GBk bk TS) {q : Key} {v : D} (hq : q ∉ (kvB bk).map (·.1)) (hl : ∀ x, q = .inr x → x.length ≤ 1000) (hn : nameD (kD q) = false) (ht : s[t]? = some (.dic (put (kvB bk) q v))) : NoB s (.ref t) := by
  rw [put_off hq] at ht
  have l3 := g.ns.pos
  have l4 := g.ns.le
  rw [List.length_map] at l3 l4
  have hlen : (kvB bk ++ [(q, v)]).length = bk.length + 1 := by unfold kvB; simp
  refine nb_keys ht (by omega) (by omega) (fun r hr x e => ?_) ?_
  · rcases List.mem_append.mp hr with hr | hr
    · obtain ⟨p, hp, rfl⟩ := List.mem_map.mp hr
      rw [← Sum.inr.inj e]
      exact (eight_ok p.1 (g.ns.sub _ (List.mem_map.mpr ⟨p, hp, rfl⟩))).2.2
    · rw [List.mem_singleton.mp hr] at e
      exact hl x e
  · rw [List.all_eq_false]
    exact ⟨kD q, List.mem_map.mpr ⟨(q, v), by simp, rfl⟩, by rw [hn]; decide⟩
theorem off_key {bk : List (Str × D)} {TS : List D} (g : GBk bk TS) {q : Key} (h : ∀ x, q = .inr x → x ∉ eight) : q ∉ (kvB bk).map (·.1) := fun z => by
  obtain ⟨r, hr, e⟩ := List.mem_map.mp z
  obtain ⟨p, hp, rfl⟩ := List.mem_map.mp hr
  exact h p.1 e.symm (g.ns.sub _ (List.mem_map.mpr ⟨p, hp, rfl⟩))
theorem there_no {s : S} {t : Nat} {bk : List (Str × D)} {TS : List D} (g : GBk bk TS) {x : Str} (hx : x ∈ bk.map (·.1)) {cs : List D} (hl : cs.length ≤ 3) (hc : ∀ c ∈ cs, GoodCase (bk.map (·.1)) TS c) {a b c' l1 : Nat} (ha : s[a]? = some (.lst [lt1 (NumV 1 0)])) (hb : s[b]? = some (.lst [.str "null"])) (hc' : s[c']? = some (.lst [.int 97])) (h1 : s[l1]? = some (.lst cs)) (nt : a ≠ t ∧ b ≠ t ∧ c' ≠ t ∧ l1 ≠ t) {bad : D} (hbad : bad ∈ bads x a b c') {q : Key × D} (hq : q ∈ prs x cs bad l1) (ht : s[t]? = some (.dic (put (kvB bk) q.1 q.2))) : NoB s (.ref t) := by
  have val : ∀ vb : D, s[t]? = some (.dic (put (kvB bk) (.inr x) vb)) → (∀ st1, Nms st1 t (bk.map (·.1)) → (∀ (i : Nat) (o : O), i ≠ t → s[i]? = some o → st1[i]? = some o) → ∀ k, VB (k + 22) t st1 vb false) → NoB s (.ref t) := fun vb ht hv => by
    rw [put_kvB hx] at ht
    have nl : t < s.length := (List.getElem?_eq_some_iff.mp ht).1
    have hd : (s.set t (.dif (kvB (putB bk x vb))))[t]? = some (.dif (kvB (putB bk x vb))) := List.getElem?_set_self nl
    refine nb_val (TS := TS) vb ht (by rw [putB_names]; exact g.ns) (fun p hp => ?_) ?_ (hv _ ?_ fun i o hi e => by rw [List.getElem?_set_ne (Ne.symm hi)]; exact e)
    · obtain ⟨r, hr, e⟩ := List.mem_map.mp hp
      by_cases hrx : r.1 = x
      · rw [if_pos hrx] at e
        rw [← e]
        exact .inl rfl
      · rw [if_neg hrx] at e
        rw [← e, putB_names]
        exact .inr (g.vals r hr)
    · obtain ⟨r, hr, e⟩ := List.mem_map.mp hx
      exact ⟨(r.1, vb), List.mem_map.mpr ⟨r, hr, by rw [if_pos e]⟩, rfl⟩
    · have := nms_of (st := s.set t (.dif (kvB (putB bk x vb)))) (b := t) (bk := putB bk x vb) (by rw [hd]; rfl)
      rw [putB_names] at this
      exact this
  try simp only [prs, List.mem_cons, List.not_mem_nil, or_false] at hq
  rcases hq with rfl | rfl | rfl | rfl | rfl | rfl
  · exact val _ ht fun st1 hN keep k => vb_bad g.ns hN hl hc (bads_no g.ns hN hx (keep _ _ nt.1 ha) (keep _ _ nt.2.1 hb) (keep _ _ nt.2.2.1 hc') hbad) k
  · exact val _ ht fun st1 hN keep k => vb_ref _ _ _ _ cs (keep _ _ nt.2.2.2 h1)
  · exact keys_no g (off_key g fun x e => by cases e) (fun x e => by cases e) rfl ht
  · exact keys_no g (off_key g fun x e => by rw [← Sum.inr.inj e]; exact up_no.2.2.2.2.1) (fun x e => by rw [← Sum.inr.inj e]; exact up_no.2.2.1) (show nameD (kD (.inr "Up")) = false from up_no.1) ht
  · exact keys_no g (off_key g fun x e => by rw [← Sum.inr.inj e]; exact up_no.2.2.2.2.2) (fun x e => by rw [← Sum.inr.inj e]; exact up_no.2.2.2.1) (show nameD (kD (.inr "")) = false from up_no.2.1) ht
  · exact val _ ht fun st1 hN keep k => vb_non _ _ _
def BentO (n g c T : Nat) (st : S) (d : D) (s : S) : Prop := NoB s d ∧ Drw n g c T s ∧ Kp n g st s
theorem some_bent_ok (k n g c T b : Nat) (st : S) (h : Drw n g c T st) (hT : T ≤ 90000) {bk : List (Str × D)} {TS : List D} (gb : GBk bk TS) (hb : st[b]? = some (.dic (kvB bk))) (bn : b ≠ n) (bg : b ≠ g) : Rn (tb (k + 4) .F_law_some_bent [.ref n, .ref b]) st (BentO n g c (T + 4) st) := by
  rw [t_b__law_some_bent]
  have l1 := h.lt
  have l2 := h.ltc
  have hz : (bk.map (·.1)).length < 64 := by have := gb.ns.le; omega
  try simp [b__law_some_bent]
  rw [run_sdicI (by rw [hb]; rfl) (strKs_kvB bk) hz]
  have hsp := isort_perm (le := leS) (bk.map (·.1))
  generalize isort leS (bk.map (·.1)) = srt at hsp ⊢
  have sl : srt.length = (bk.map (·.1)).length := hsp.length_eq
  have l3 := gb.ns.pos
  have l4 := gb.ns.le
  try simp
  refine (pickNew k n g c T (srt.map .str) st h (by omega) (by simpa using (by omega : 0 < srt.length)) (by simp; omega)).mono fun y s ⟨hy, h1, kp1⟩ => ?_
  obtain ⟨x, hx0, rfl⟩ := List.mem_map.mp hy
  have hx : x ∈ bk.map (·.1) := hsp.mem_iff.mp hx0
  have hb1 := kp1.2 _ _ bn bg hb
  obtain ⟨p, hp, hlook⟩ := look_kvB hx
  obtain ⟨cs, hc1, hc2, hc3⟩ := gb.vals p hp
  try simp
  rw [run_ixC hb1, hlook]
  try simp [hc1, sz]
  have e3 : s.length + 3 = (s ++ [O.lst [lt1 (NumV 1 0)]] ++ [O.lst [D.str "null"]] ++ [O.lst [D.int 97]]).length := by simp
  rw [e3]
  have A := pickNew k n g c (T + 1) (bads x s.length (s ++ [O.lst [lt1 (NumV 1 0)]]).length (s ++ [O.lst [lt1 (NumV 1 0)]] ++ [O.lst [D.str "null"]]).length) (s ++ [O.lst [lt1 (NumV 1 0)]] ++ [O.lst [D.str "null"]] ++ [O.lst [D.int 97]]) (((h1.app _).app _).app _) (by omega) (by simp [bads]) (by simp [bads])
  refine A.mono fun bad s2 ⟨hbad, h2, kp2⟩ => ?_
  clear A
  have ls := kp1.1
  have ga1 : (s ++ [O.lst [lt1 (NumV 1 0)]] ++ [O.lst [D.str "null"]] ++ [O.lst [D.int 97]])[s.length]? = some (.lst [lt1 (NumV 1 0)]) := ga (ga gn)
  have gb1 : (s ++ [O.lst [lt1 (NumV 1 0)]] ++ [O.lst [D.str "null"]] ++ [O.lst [D.int 97]])[(s ++ [O.lst [lt1 (NumV 1 0)]]).length]? = some (.lst [D.str "null"]) := ga gn
  have gc1 : (s ++ [O.lst [lt1 (NumV 1 0)]] ++ [O.lst [D.str "null"]] ++ [O.lst [D.int 97]])[(s ++ [O.lst [lt1 (NumV 1 0)]] ++ [O.lst [D.str "null"]]).length]? = some (.lst [D.int 97]) := gn
  have lb : s.length ≤ (s ++ [O.lst [lt1 (NumV 1 0)]]).length := by simp
  have lc : s.length ≤ (s ++ [O.lst [lt1 (NumV 1 0)]] ++ [O.lst [D.str "null"]]).length := by simp
  have kp3 : Kp n g s s2 := (((Kp.app ..).trans (Kp.app ..)).trans (Kp.app ..)).trans kp2
  have ga2 := kp2.2 _ _ (by omega) (by omega) ga1
  have gb2 := kp2.2 _ _ (by omega) (by omega) gb1
  have gc2 := kp2.2 _ _ (by omega) (by omega) gc1
  have l0 : s.length ≤ s2.length := kp3.1
  clear kp2 ga1 gb1 gc1 e3
  generalize (s ++ [O.lst [lt1 (NumV 1 0)]] ++ [O.lst [D.str "null"]]).length = c1 at hbad gc2 lc
  generalize (s ++ [O.lst [lt1 (NumV 1 0)]]).length = b1 at hbad gb2 lb
  generalize s.length = a1 at hbad ga2 lb lc ls l0
  have hb2 := kp3.2 _ _ bn bg hb1
  try simp [sz (n := cs.length + 1) (by omega), run_listE_tup, sz]
  have lb2 : a1 < s2.length ∧ b1 < s2.length ∧ c1 < s2.length := ⟨(List.getElem?_eq_some_iff.mp ga2).1, (List.getElem?_eq_some_iff.mp gb2).1, (List.getElem?_eq_some_iff.mp gc2).1⟩
  rw [List.append_assoc s2 [O.lst cs], List.singleton_append]
  refine (?_ : Rn (on1 dictE [.ref b]) (s2 ++ [O.lst cs, O.lst ((prs x cs bad s2.length).map fun q => D.tup [kD q.1, q.2])]) _)
  have gl : (s2 ++ [O.lst cs, O.lst ((prs x cs bad s2.length).map fun q => D.tup [kD q.1, q.2])])[s2.length]? = some (.lst cs) := by simp
  have gp : (s2 ++ [O.lst cs, O.lst ((prs x cs bad s2.length).map fun q => D.tup [kD q.1, q.2])])[s2.length + 1]? = some (.lst ((prs x cs bad s2.length).map fun q => D.tup [kD q.1, q.2])) := by simp
  have kp4 : Kp n g s2 (s2 ++ [O.lst cs, O.lst ((prs x cs bad s2.length).map fun q => D.tup [kD q.1, q.2])]) := Kp.app ..
  have h4 : Drw n g c (T + 2) (s2 ++ [O.lst cs, O.lst ((prs x cs bad s2.length).map fun q => D.tup [kD q.1, q.2])]) := h2.app _
  generalize s2 ++ [O.lst cs, O.lst ((prs x cs bad s2.length).map fun q => D.tup [kD q.1, q.2])] = s3 at gl gp kp4 h4 ⊢
  generalize hl1 : s2.length = l1' at hbad gl gp lb2 l0 ⊢
  have hb3 := kp4.2 _ _ bn bg hb2
  have ga3 := kp4.2 _ _ (by omega) (by omega) ga2
  have gb3 := kp4.2 _ _ (by omega) (by omega) gb2
  have gc3 := kp4.2 _ _ (by omega) (by omega) gc2
  have len3 : l1' + 1 < s3.length := (List.getElem?_eq_some_iff.mp gp).1
  have bl3 : b < s3.length := (List.getElem?_eq_some_iff.mp hb3).1
  rw [run_dictE_dic hb3]
  try simp
  refine (pick_ok k n g c (T + 2) (l1' + 1) ((prs x cs bad l1').map fun q => D.tup [kD q.1, q.2]) (s3 ++ [O.dic (kvB bk)]) (h4.app _) (by omega) (ga gp) (by omega) (by omega) (by simp [prs]) (by simp [prs])).mono fun d s4 ⟨hd, h5, kp5⟩ => ?_
  obtain ⟨q, hq, rfl⟩ := List.mem_map.mp hd
  have gt4 := kp5.2 s3.length _ (by omega) (by omega) gn
  have hb4 := kp5.2 _ _ bn bg (ga hb3)
  have ga4 := kp5.2 _ _ (by omega) (by omega) (ga ga3)
  have gb4 := kp5.2 _ _ (by omega) (by omega) (ga gb3)
  have gc4 := kp5.2 _ _ (by omega) (by omega) (ga gc3)
  have gl4 := kp5.2 _ _ (by omega) (by omega) (ga gl)
  have kl : (kvB bk).length ≤ 1000 := by unfold kvB; rw [List.length_map]; rw [List.length_map] at l4; omega
  try simp
  rw [run_setQ gt4 kl]
  have kp6 : Kp n g st (s4.set s3.length (.dic (put (kvB bk) q.1 q.2))) := ((((kp1.trans kp3).trans kp4).trans (Kp.app ..)).trans kp5).setNew (by have := (kp1.trans (kp3.trans kp4)).1; omega)
  have l3c : c < s3.length := h4.ltc
  have h6 : Drw n g c (T + 3) (s4.set s3.length (.dic (put (kvB bk) q.1 q.2))) := h5.set (by omega) (by omega) (by omega)
  have t4 : s3.length < s4.length := (List.getElem?_eq_some_iff.mp gt4).1
  have gt5 : (s4.set s3.length (.dic (put (kvB bk) q.1 q.2)))[s3.length]? = some (.dic (put (kvB bk) q.1 q.2)) := List.getElem?_set_self t4
  have hb5 : (s4.set s3.length (.dic (put (kvB bk) q.1 q.2)))[b]? = some (.dic (kvB bk)) := by rw [List.getElem?_set_ne (by omega)]; exact hb4
  have ga5 : (s4.set s3.length (.dic (put (kvB bk) q.1 q.2)))[a1]? = some (.lst [lt1 (NumV 1 0)]) := by rw [List.getElem?_set_ne (by omega)]; exact ga4
  have gb5 : (s4.set s3.length (.dic (put (kvB bk) q.1 q.2)))[b1]? = some (.lst [.str "null"]) := by rw [List.getElem?_set_ne (by omega)]; exact gb4
  have gc5 : (s4.set s3.length (.dic (put (kvB bk) q.1 q.2)))[c1]? = some (.lst [.int 97]) := by rw [List.getElem?_set_ne (by omega)]; exact gc4
  have gl5 : (s4.set s3.length (.dic (put (kvB bk) q.1 q.2)))[l1']? = some (.lst cs) := by rw [List.getElem?_set_ne (by omega)]; exact gl4
  generalize s4.set s3.length (.dic (put (kvB bk) q.1 q.2)) = s5 at kp6 h6 gt5 hb5 ga5 gb5 gc5 gl5 ⊢
  generalize s3.length = t at *
  try simp
  rw [run_listE_dic (kvs := kvB bk) (by rw [hb5]; rfl)]
  try simp [sz]
  have e7 : s5.length + 2 = (s5 ++ [O.lst ((kvB bk).map fun q => kD q.1)] ++ [O.dic []]).length := by simp
  rw [e7]
  have gL : (s5 ++ [O.lst ((kvB bk).map fun q => kD q.1)] ++ [O.dic []])[s5.length]? = some (.lst ((kvB bk).map fun q => kD q.1)) := ga gn
  have gE : (s5 ++ [O.lst ((kvB bk).map fun q => kD q.1)] ++ [O.dic []])[(s5 ++ [O.lst ((kvB bk).map fun q => kD q.1)]).length]? = some (.dic []) := gn
  have lE : s5.length ≤ (s5 ++ [O.lst ((kvB bk).map fun q => kD q.1)]).length := by simp
  have t5 : t < s5.length := (List.getElem?_eq_some_iff.mp gt5).1
  have l5 := h6.lt
  have kp7 : Kp n g s5 (s5 ++ [O.lst ((kvB bk).map fun q => kD q.1)] ++ [O.dic []]) := (Kp.app ..).trans (Kp.app ..)
  have h7 : Drw n g c (T + 3) (s5 ++ [O.lst ((kvB bk).map fun q => kD q.1)] ++ [O.dic []]) := (h6.app _).app _
  generalize (s5 ++ [O.lst ((kvB bk).map fun q => kD q.1)]).length = eE at gE lE ⊢
  generalize s5 ++ [O.lst ((kvB bk).map fun q => kD q.1)] ++ [O.dic []] = s6 at gL gE kp7 h7 ⊢
  refine (pickNew k n g c (T + 3) [.ref t, .ref t, .ref t, .ref s5.length, .non, .str x, .ref eE] s6 h7 (by omega) (by simp) (by simp)).mono fun y s7 ⟨hy, h8, kp8⟩ => ?_
  have kp78 := kp7.trans kp8
  refine (?_ : BentO n g c (T + 4) st y s7)
  refine ⟨?_, h8, kp6.trans kp78⟩
  try simp only [List.mem_cons, List.not_mem_nil, or_false] at hy
  have there : NoB s7 (.ref t) := there_no gb hx hc2 hc3 (kp78.2 _ _ (by omega) (by omega) ga5) (kp78.2 _ _ (by omega) (by omega) gb5) (kp78.2 _ _ (by omega) (by omega) gc5) (kp78.2 _ _ (by omega) (by omega) gl5) (by omega) hbad hq (kp78.2 _ _ (by omega) (by omega) gt5)
  rcases hy with rfl | rfl | rfl | rfl | rfl | rfl | rfl
  · exact there
  · exact there
  · exact there
  · exact nb_lst (kp8.2 _ _ (by omega) (by omega) gL)
  · exact nb_non
  · exact nb_str
  · exact nb_nil (kp8.2 _ _ (by omega) (by omega) gE)
end K37


namespace K37
open PySem Mx
open L2 (Key)
/-! ### the law -/
theorem run_isnB {a b : Bool} {st : S} {Q : D → S → Prop} : Rn (isnO (.bl a) (.bl b)) st Q = Q (.bl (!(a == b))) st := by cases a <;> cases b <;> rfl
theorem run_isB {a b : Bool} {st : S} {Q : D → S → Prop} : Rn (isO (.bl a) (.bl b)) st Q = Q (.bl (a == b)) st := by cases a <;> cases b <;> rfl
def L5 (n g c T : Nat) (i : Nat) (es : Es) (s : S) : Prop := ∃ o0 o2 o3 o4 o5 o6 o7 o8 o9, es = [o0, some (.ref n), o2, o3, o4, o5, o6, o7, o8, o9] ∧ Drw n g c (T + 504 * i) s
theorem law5 (n g c T : Nat) (st : S) (h : Drw n g c T st) (hT : T ≤ 10) (o0 o2 o3 o4 o5 o6 o7 o8 o9 : Option D) (Q : Es × Fl → S → Prop) (hQ : ∀ o0 o2 o3 o4 o5 o6 o7 o8 o9 s, Q ([o0, some (.ref n), o2, o3, o4, o5, o6, o7, o8, o9], .nx) s) : Rn (lw5 L0 (tb 38) [o0, some (.ref n), o2, o3, o4, o5, o6, o7, o8, o9]) st Q := by
  unfold lw5
  try simp only [run_forS, run_rng, run_c]
  refine ⟨small_of (by decide) (by decide), ?_⟩
  refine run_for (ds := (List.range (6 : Int).toNat).map fun (q : Nat) => D.int q) (L5 n g c T) (fun i es s _ => rng_at') ?_ ?_ _ _ _ _ ?_ ?_ ?_
  · rintro i d es s hd ⟨o0, o2, o3, o4, o5, o6, o7, o8, o9, rfl, hD⟩
    have hi : i < 6 := by
      have := (List.getElem?_eq_some_iff.mp hd).1
      simpa using this
    try simp
    refine (some_book_ok 17 n g c (T + 504 * i) s hD (by omega)).mono fun d2 s2 ⟨fd, bk, TS, e, gb, hb, lf, h2, kp2⟩ => ?_
    subst e
    have ln := hD.lt
    try simp
    refine (is_book_true 15 fd s2 gb hb).mono fun d3 s3 ⟨e, ex, e2⟩ => ?_
    subst e e2
    try simp [run_isnB]
    try simp [sameO]
    refine (is_book_true 15 fd (s2 ++ ex) gb (ga hb)).mono fun d3 s3 ⟨e, ex2, e2⟩ => ?_
    subst e e2
    try simp [run_isnB]
    refine (some_bent_ok 34 n g c (T + 504 * i + 500) fd (s2 ++ ex ++ ex2) ((h2.app _).app _) (by omega) gb (ga (ga hb)) (by omega) (by omega)).mono fun d4 s4 ⟨nb, h4, kp4⟩ => ?_
    try simp
    refine (nb 15).mono fun d5 s5 ⟨e, ex3, e2⟩ => ?_
    subst e e2
    try simp [run_isnB]
    exact ⟨_, _, _, _, _, _, _, _, _, rfl, (h4.app _).up (by omega)⟩
  · rintro es s ⟨o0, o2, o3, o4, o5, o6, o7, o8, o9, rfl, hD⟩
    exact hQ ..
  · exact lt0 (by decide)
  · exact Nat.zero_le _
  · exact ⟨_, _, _, _, _, _, _, _, _, rfl, h⟩
def bk3n : List (Str × D) := [("nc", .tup []), ("nb", .tup []), ("na", .tup [])]
theorem gbk3 : GBk bk3n [] := ⟨⟨by decide +kernel, by decide +kernel, by decide, by decide⟩, fun p hp => ⟨[], by simp [bk3n] at hp; rcases hp with rfl | rfl | rfl <;> rfl, by simp, by simp⟩, by simp, by simp⟩
theorem names3 (st : S) : (tb 38 .F_law_names [.int 3]) st = some (.ref st.length, st ++ [.lst [.str "na", .str "nb", .str "nc"]]) := by kernel_rfl
theorem merge3 : merge [] (kvB bk3n) = kvB bk3n := merge_nd (by show ((kvB bk3n).map (·.1)).Nodup; show List.Nodup [(Sum.inr "nc" : Key), .inr "nb", .inr "na"]; decide +kernel)
theorem law6 (st : S) (es : Es) (h9 : ∃ o0 o1 o2 o3 o4 o5 o6 o7 o8 o9, es = [o0, o1, o2, o3, o4, o5, o6, o7, o8, o9]) (Q : Es × Fl → S → Prop) (hQ : ∀ e s, Q (e, .rt (.bl true)) s) : Rn (lw6 L0 (tb 38) es) st Q := by
  obtain ⟨o0, o1, o2, o3, o4, o5, o6, o7, o8, o9, rfl⟩ := h9
  unfold lw6
  try simp
  rw [run_some (names3 st)]
  try simp
  rw [run_lstAt gn]
  try simp
  have e1 : st.length + 1 = (st ++ [O.lst [D.str "na", .str "nb", .str "nc"]]).length := by simp
  rw [e1, run_live gn]
  refine lcmap (ds := [D.str "nc", .str "nb", .str "na"]) (fun d => .tup [d, .tup []]) (by simp) (fun ex i => live_at (ga gn)) ?_ fun ex => ?_
  · rintro d hd ex
    try simp [wipeE, sz]
  · have e2 : prsOf ([D.str "nc", .str "nb", .str "na"].map fun d => D.tup [d, .tup []]) = some (kvB bk3n) := rfl
    try simp only [run_nilA, List.map_cons, List.map_nil]
    rw [run_dictE_lst gn e2, merge3]
    refine (is_book_true 15 _ _ gbk3 gn).mono fun d3 s3 ⟨e, ex2, e2⟩ => ?_
    subst e e2
    try simp [run_isB]
    exact hQ ..
theorem A2_eq : A2 = lw2 L0 (tb 38) := by unfold A2; rfl
theorem A3_eq : A3 = lw3 L0 (tb 38) := by unfold A3; rfl
theorem A4_eq : A4 = lw4 L0 (tb 38) := by unfold A4; rfl
theorem law_run (ns : List Int) (hl : ns.length ≤ 63) (hb : ∀ z ∈ ns, Builtin.Int.intBits z ≤ 1048576) : ∃ st, tab L0 39 .Flaw [.rol (ns.map .int)] [] = some (.bl true, st) := by
  have main : Rn (tb (38 + 1) .Flaw [.rol (ns.map .int)]) [] fun d s => d = .bl true := by
    rw [t_b_law, b_law_cut]
    try simp only [run_fn]
    refine ⟨rfl, ?_⟩
    rw [run_seq]
    unfold lw1
    try simp only [run_asg, run_call, run_consA, run_nilA, run_var, List.map_cons, List.map_nil, List.length_cons, List.length_nil, List.cons_append, List.nil_append, List.replicate, List.getElem?_cons_zero, run_name, List.set_cons_succ, List.set_cons_zero]
    refine (begun_ex 37 ns hl).mono fun d s ⟨e, ⟨a, b, c, e2⟩, hD⟩ => ?_
    subst e e2
    rw [← A2_eq, ← A3_eq, ← A4_eq]
    refine mid_ok _ a b c _ _ fun y z w u v o1 o2 o3 ex => ?_
    rw [run_seq]
    refine law5 2 0 1 0 _ (hD.app ex) (by decide) _ _ _ _ _ _ _ _ _ _ fun o0 o2 o3 o4 o5 o6 o7 o8 o9 s => ?_
    exact law6 s _ ⟨_, _, _, _, _, _, _, _, _, _, rfl⟩ _ fun e s => rfl
  obtain ⟨a, s, e, rfl⟩ := main.get
  exact ⟨s, e⟩
end K37

open PySem PySem.W PyProof.Rows in
set_option maxRecDepth 100000 in
set_option maxHeartbeats 0 in
theorem PySem.Challenge.cw_earlysettled_k37_bounds_of_books_holds : PySem.Challenge.rw_earlysettled_k37_bounds_of_books.Holds := by
  w_on; o_law; k_head; (case hw => w_witness2)
  k_fill
  refine Mx.walk_M (l := PySem.Challenge.rw_earlysettled_k37_bounds_of_books) (n := 63) (k := 41) (x := "script") (g := K37.tab K37.L0 39 .Flaw) rfl (by decide) rfl ⟨⟨rfl, by decide, by decide⟩, rfl⟩ (fun w h Y => by first | exact PySem.W.kIn_of Y | exact PySem.W.km_in_of Y) ?F K37.law_run
  case F =>
    intro w mg fa h _ inK G hmg ft
    refine' K37.all_mk (k := 39) (L := K37.L0) inK G hmg ?a_is_whole ?l_is_whole ?c_is_whole ?k_is_whole ?a_is_decimal ?l_is_decimal ?c_is_decimal ?k_is_decimal ?a_is_high ?l_is_high ?c_is_high ?k_is_high ?a_is_low ?l_is_low ?c_is_low ?k_is_low ?a_is_point ?l_is_point ?c_is_point ?k_is_point ?a_is_points ?l_is_points ?c_is_points ?k_is_points ?a_are_items ?l_are_items ?c_are_items ?k_are_items ?a_are_members ?l_are_members ?c_are_members ?k_are_members ?a_is_value_within ?l_is_value_within ?c_is_value_within ?k_is_value_within ?a_is_value ?l_is_value ?c_is_value ?k_is_value ?a_is_test ?l_is_test ?c_is_test ?k_is_test ?a_is_pattern_within ?l_is_pattern_within ?c_is_pattern_within ?k_is_pattern_within ?a_is_pattern ?l_is_pattern ?c_is_pattern ?k_is_pattern ?a_places_of ?l_places_of ?c_places_of ?k_places_of ?a_is_type_name ?l_is_type_name ?c_is_type_name ?k_is_type_name ?a_are_tests_of ?l_are_tests_of ?c_are_tests_of ?k_are_tests_of ?a_are_triples ?l_are_triples ?c_are_triples ?k_are_triples ?a_is_case ?l_is_case ?c_is_case ?k_is_case ?a_cases_in ?l_cases_in ?c_cases_in ?k_cases_in ?a_tests_in ?l_tests_in ?c_tests_in ?k_tests_in ?a_points_in ?l_points_in ?c_points_in ?k_points_in ?a_is_book ?l_is_book ?c_is_book ?k_is_book ?a_need_book ?l_need_book ?c_need_book ?k_need_book ?a_tests_of ?l_tests_of ?c_tests_of ?k_tests_of ?a_known_of ?l_known_of ?c_known_of ?k_known_of ?a__law_begun ?l__law_begun ?c__law_begun ?k__law_begun ?a__law_mixed ?l__law_mixed ?c__law_mixed ?k__law_mixed ?a__law_draw ?l__law_draw ?c__law_draw ?k__law_draw ?a__law_pick ?l__law_pick ?c__law_pick ?k__law_pick ?a__law_shuffled ?l__law_shuffled ?c__law_shuffled ?k__law_shuffled ?a__law_number ?l__law_number ?c__law_number ?k__law_number ?a__law_some_test ?l__law_some_test ?c__law_some_test ?k__law_some_test ?a__law_some_pattern ?l__law_some_pattern ?c__law_some_pattern ?k__law_some_pattern ?a__law_some_points ?l__law_some_points ?c__law_some_points ?k__law_some_points ?a__law_some_members ?l__law_some_members ?c__law_some_members ?k__law_some_members ?a__law_some_case ?l__law_some_case ?c__law_some_case ?k__law_some_case ?a__law_some_book ?l__law_some_book ?c__law_some_book ?k__law_some_book ?a__law_names ?l__law_names ?c__law_names ?k__law_names ?a__law_wide ?l__law_wide ?c__law_wide ?k__law_wide ?a__law_balanced ?l__law_balanced ?c__law_balanced ?k__law_balanced ?a__law_some_bent ?l__law_some_bent ?c__law_some_bent ?k__law_some_bent ?a_law ?l_law ?c_law ?k_law ?n_abs ?n_all ?n_any ?n_bool ?n_dict ?n_int ?n_isinstance ?n_len ?n_list ?n_range ?n_set ?n_sorted ?n_str ?n_tuple ?n_zip ?x_FIRST_HIGH ?x_FIRST_LOW ?x_LAST_HIGH ?x_LAST_LOW ?x_LETTERS ?x_MOST_CASES ?x_MOST_ITEMS ?x_MOST_KNOWN ?x_MOST_LETTERS ?x_MOST_LEVELS ?x_MOST_MEMBERS ?x_MOST_NAMES ?x_MOST_NESTED ?x_MOST_POINT ?x_MOST_TESTS ?x_NUMBER ?x_STRING ?m_DUES ?o_DUES ?v_DUES ?m_SIGNS ?o_SIGNS ?v_SIGNS ?m_WORDS ?o_WORDS ?v_WORDS ?m_PARTS ?o_PARTS ?y_PARTS ?s_PARTS ?e_PARTS_0 ?e_PARTS_1 ?e_PARTS_2 ?e_PARTS_3 ?e_PARTS_4
    (case a_is_whole => k_is)
    (case l_is_whole => k_is)
    (case c_is_whole => k_is)
    (case k_is_whole => k_is)
    (case a_is_decimal => k_is)
    (case l_is_decimal => k_is)
    (case c_is_decimal => k_is)
    (case k_is_decimal => k_is)
    (case a_is_high => k_is)
    (case l_is_high => k_is)
    (case c_is_high => k_is)
    (case k_is_high => k_is)
    (case a_is_low => k_is)
    (case l_is_low => k_is)
    (case c_is_low => k_is)
    (case k_is_low => k_is)
    (case a_is_point => k_is)
    (case l_is_point => k_is)
    (case c_is_point => k_is)
    (case k_is_point => k_is)
    (case a_is_points => k_is)
    (case l_is_points => k_is)
    (case c_is_points => k_is)
    (case k_is_points => k_is)
    (case a_are_items => k_is)
    (case l_are_items => k_is)
    (case c_are_items => k_is)
    (case k_are_items => k_is)
    (case a_are_members => k_is)
    (case l_are_members => k_is)
    (case c_are_members => k_is)
    (case k_are_members => k_is)
    (case a_is_value_within => k_is)
    (case l_is_value_within => k_is)
    (case c_is_value_within => k_is)
    (case k_is_value_within => k_is)
    (case a_is_value => k_is)
    (case l_is_value => k_is)
    (case c_is_value => k_is)
    (case k_is_value => k_is)
    (case a_is_test => k_is)
    (case l_is_test => k_is)
    (case c_is_test => k_is)
    (case k_is_test => k_is)
    (case a_is_pattern_within => k_is)
    (case l_is_pattern_within => k_is)
    (case c_is_pattern_within => k_is)
    (case k_is_pattern_within => k_is)
    (case a_is_pattern => k_is)
    (case l_is_pattern => k_is)
    (case c_is_pattern => k_is)
    (case k_is_pattern => k_is)
    (case a_places_of => k_is)
    (case l_places_of => k_is)
    (case c_places_of => k_is)
    (case k_places_of => k_is)
    (case a_is_type_name => k_is)
    (case l_is_type_name => k_is)
    (case c_is_type_name => k_is)
    (case k_is_type_name => k_is)
    (case a_are_tests_of => k_is)
    (case l_are_tests_of => k_is)
    (case c_are_tests_of => k_is)
    (case k_are_tests_of => k_is)
    (case a_are_triples => k_is)
    (case l_are_triples => k_is)
    (case c_are_triples => k_is)
    (case k_are_triples => k_is)
    (case a_is_case => k_is)
    (case l_is_case => k_is)
    (case c_is_case => k_is)
    (case k_is_case => k_is)
    (case a_cases_in => k_is)
    (case l_cases_in => k_is)
    (case c_cases_in => k_is)
    (case k_cases_in => k_is)
    (case a_tests_in => k_is)
    (case l_tests_in => k_is)
    (case c_tests_in => k_is)
    (case k_tests_in => k_is)
    (case a_points_in => k_is)
    (case l_points_in => k_is)
    (case c_points_in => k_is)
    (case k_points_in => k_is)
    (case a_is_book => k_is)
    (case l_is_book => k_is)
    (case c_is_book => k_is)
    (case k_is_book => k_is)
    (case a_need_book => k_is)
    (case l_need_book => k_is)
    (case c_need_book => k_is)
    (case k_need_book => k_is)
    (case a_tests_of => k_is)
    (case l_tests_of => k_is)
    (case c_tests_of => k_is)
    (case k_tests_of => k_is)
    (case a_known_of => k_is)
    (case l_known_of => k_is)
    (case c_known_of => k_is)
    (case k_known_of => k_is)
    (case a__law_begun => k_is)
    (case l__law_begun => k_is)
    (case c__law_begun => k_is)
    (case k__law_begun => k_is)
    (case a__law_mixed => k_is)
    (case l__law_mixed => k_is)
    (case c__law_mixed => k_is)
    (case k__law_mixed => k_is)
    (case a__law_draw => k_is)
    (case l__law_draw => k_is)
    (case c__law_draw => k_is)
    (case k__law_draw => k_is)
    (case a__law_pick => k_is)
    (case l__law_pick => k_is)
    (case c__law_pick => k_is)
    (case k__law_pick => k_is)
    (case a__law_shuffled => k_is)
    (case l__law_shuffled => k_is)
    (case c__law_shuffled => k_is)
    (case k__law_shuffled => k_is)
    (case a__law_number => k_is)
    (case l__law_number => k_is)
    (case c__law_number => k_is)
    (case k__law_number => k_is)
    (case a__law_some_test => k_is)
    (case l__law_some_test => k_is)
    (case c__law_some_test => k_is)
    (case k__law_some_test => k_is)
    (case a__law_some_pattern => k_is)
    (case l__law_some_pattern => k_is)
    (case c__law_some_pattern => k_is)
    (case k__law_some_pattern => k_is)
    (case a__law_some_points => k_is)
    (case l__law_some_points => k_is)
    (case c__law_some_points => k_is)
    (case k__law_some_points => k_is)
    (case a__law_some_members => k_is)
    (case l__law_some_members => k_is)
    (case c__law_some_members => k_is)
    (case k__law_some_members => k_is)
    (case a__law_some_case => k_is)
    (case l__law_some_case => k_is)
    (case c__law_some_case => k_is)
    (case k__law_some_case => k_is)
    (case a__law_some_book => k_is)
    (case l__law_some_book => k_is)
    (case c__law_some_book => k_is)
    (case k__law_some_book => k_is)
    (case a__law_names => k_is)
    (case l__law_names => k_is)
    (case c__law_names => k_is)
    (case k__law_names => k_is)
    (case a__law_wide => k_is)
    (case l__law_wide => k_is)
    (case c__law_wide => k_is)
    (case k__law_wide => k_is)
    (case a__law_balanced => k_is)
    (case l__law_balanced => k_is)
    (case c__law_balanced => k_is)
    (case k__law_balanced => k_is)
    (case a__law_some_bent => k_is)
    (case l__law_some_bent => k_is)
    (case c__law_some_bent => k_is)
    (case k__law_some_bent => k_is)
    (case a_law => k_is)
    (case l_law => k_is)
    (case c_law => k_is)
    (case k_law => k_is)
    (case n_abs => k_is)
    (case n_all => k_is)
    (case n_any => k_is)
    (case n_bool => k_is)
    (case n_dict => k_is)
    (case n_int => k_is)
    (case n_isinstance => k_is)
    (case n_len => k_is)
    (case n_list => k_is)
    (case n_range => k_is)
    (case n_set => k_is)
    (case n_sorted => k_is)
    (case n_str => k_is)
    (case n_tuple => k_is)
    (case n_zip => k_is)
    (case x_FIRST_HIGH => k_is)
    (case x_FIRST_LOW => k_is)
    (case x_LAST_HIGH => k_is)
    (case x_LAST_LOW => k_is)
    (case x_LETTERS => k_is)
    (case x_MOST_CASES => k_is)
    (case x_MOST_ITEMS => k_is)
    (case x_MOST_KNOWN => k_is)
    (case x_MOST_LETTERS => k_is)
    (case x_MOST_LEVELS => k_is)
    (case x_MOST_MEMBERS => k_is)
    (case x_MOST_NAMES => k_is)
    (case x_MOST_NESTED => k_is)
    (case x_MOST_POINT => k_is)
    (case x_MOST_TESTS => k_is)
    (case x_NUMBER => k_is)
    (case x_STRING => k_is)
    (case m_DUES => k_is)
    (case o_DUES => k_is)
    (case v_DUES => rfl)
    (case m_SIGNS => k_is)
    (case o_SIGNS => k_is)
    (case v_SIGNS => rfl)
    (case m_WORDS => k_is)
    (case o_WORDS => k_is)
    (case v_WORDS => rfl)
    (case m_PARTS => k_is)
    (case o_PARTS => k_is)
    (case y_PARTS => exact ⟨⟨_, _, rfl, rfl⟩, ⟨_, _, rfl, rfl⟩, ⟨_, _, rfl, rfl⟩, ⟨_, _, rfl, rfl⟩, ⟨_, _, rfl, rfl⟩, trivial⟩)
    (case s_PARTS => rfl)
    (case e_PARTS_0 => k_is)
    (case e_PARTS_1 => k_is)
    (case e_PARTS_2 => k_is)
    (case e_PARTS_3 => k_is)
    (case e_PARTS_4 => k_is)
