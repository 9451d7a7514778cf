import PyProof.Rows.All
import Wide.All
import OpenK.AllK
import Wide.FinOn
import HandS.ForMost
import HandS.Wide
import HandS.IsInst
import HandS.Deep
import HandS.Style
import HandS.Zip
import HandS.Defaults
import HandS.TryOnly
import HandS.Zip0
import KE.KDictZip
import KE.KItemsList
import HandS.ListItems
import HandS.TupAny
import HandS.ExcOwn
import HandS.Lambda
import HandS.ExcInit
import HandS.WordsExc
import HandS.MakeKwOnly
import HandS.ExcField
import HandS.HotCalls
import HandS.SetBool
import HandS.TupSets
import HandS.Flt
import KE.SortData
import HandS.SuiteRaise
import HandS.RaiseFrom
import PyProof.NsDelKeeps
import HandS.ExcIs
import KE.KTryMore
import HandS.Nested
import HandS.EndTab
import HandS.SortKw
import KE.SortKeyHeap
import KE.GoesEnumKw
import KE.DataCmp
import HandS.Conv
import HandS.Style
import KE.KNestM
import HandS.DictComp
import HandS.TryMany
import PyProof.StrOps2
import HandS.DictTup
import PyProof.TupleOfSeq
import KE.DataMinMax
import KE.GoesMore
import KE.GoesZip
import KE.GoesEnum
import HandS.TupMul
import PySem.Challenge.RW_rubberroutes_k43_sweeps
set_option Elab.async false
set_option linter.all false
set_option maxRecDepth 100000
set_option maxHeartbeats 4000000
namespace Z
open PySem L2
inductive D where
  | non | bl (b : Bool) | int (i : Int) | str (s : Str) | ty (n : String) | tup (ds : List D) | rol (ds : List D) | ref (a : Addr)
inductive MO where
  | lst (ds : List D) | dK (kvs : List (Key × D)) | dT (kvs : List (List Key × D)) | ins (C dx : Addr) (fs : List (Str × D)) | xd (fs : List (Str × D)) | fT (od : Obj) (vs : List (List Key × V)) (kvs : List (List Key × D)) | fK (od : Obj) (vs : List (Key × V)) (kvs : List (Key × D)) | fTp (od : Obj) (ds : List D) | xo (od : Obj) (C : Addr) | tab (q : Str)
abbrev M := Addr → Option MO
def M.set (μ : M) (a : Addr) (m : MO) : M := fun b => if b = a then some m else μ b
theorem set_same {μ : M} {a : Addr} {m : MO} : μ.set a m a = some m := by unfold M.set; rw [if_pos rfl]
theorem set_ne {μ : M} {a b : Addr} {m : MO} (h : b ≠ a) : μ.set a m b = μ b := by unfold M.set; rw [if_neg h]
theorem set_set {μ : M} {a : Addr} {m m' : MO} : (μ.set a m).set a m' = μ.set a m' := by
  funext b; unfold M.set; split <;> rfl
inductive TupAt (K : PySem.W.Frag) (H : Hp) (a : Addr) (xs : List V) : Prop
  | inl (h : H a = some (.tup xs)) : TupAt K H a xs
def RolAt (K : PySem.W.Frag) (H : Hp) (a : Addr) (xs : List V) : Prop :=
  (∃ o, H a = some (.frz o (.lst xs))) ∨ ∃ (o : Obj) (its : Array Value) (n : Nat), K.lookup a = some o ∧ o.cls = .type "list" ∧ o.dict = none ∧ o.data = .seq its n ∧ its.size ≤ sizeLine ∧ Vals xs its.toList
theorem TupAt.sq {K : PySem.W.Frag} {H : Hp} {a : Addr} {xs : List V} (h : TupAt K H a xs) : SqT K H a xs := by
  cases h with
  | inl h => exact .inl (.inl h)
theorem RolAt.sq {K : PySem.W.Frag} {H : Hp} {a : Addr} {xs : List V} (h : RolAt K H a xs) : SqL K H a xs := by
  rcases h with ⟨o, h⟩ | h
  · exact .inl (.inr ⟨o, h⟩)
  · exact .inr h
mutual
inductive Rel (K : PySem.W.Frag) (H : Hp) : V → D → Prop
  | non : Rel K H .non .non
  | bl (b : Bool) : Rel K H (.bl b) (.bl b)
  | int (i : Int) : Rel K H (.int i) (.int i)
  | str (s : Str) : Rel K H (.str s) (.str s)
  | ty (n : String) : Rel K H (.ty n) (.ty n)
  | ref (a : Addr) : Rel K H (.ref a) (.ref a)
  | tup {a : Addr} {xs : List V} {ds : List D} : TupAt K H a xs → Rels K H xs ds → Rel K H (.ref a) (.tup ds)
  | rol {a : Addr} {xs : List V} {ds : List D} : RolAt K H a xs → Rels K H xs ds → Rel K H (.ref a) (.rol ds)
inductive Rels (K : PySem.W.Frag) (H : Hp) : List V → List D → Prop
  | nil : Rels K H [] []
  | cons {v : V} {vs : List V} {d : D} {ds : List D} : Rel K H v d → Rels K H vs ds → Rels K H (v :: vs) (d :: ds)
end
/-- field lists, pair lists -/
def RelKV {κ : Type} (K : PySem.W.Frag) (H : Hp) : List (κ × V) → List (κ × D) → Prop := Paired fun p q => p.1 = q.1 ∧ Rel K H p.2 q.2
def MRel (K : PySem.W.Frag) (H : Hp) (a : Addr) : MO → Prop
  | .lst ds => ∃ vs, H a = some (.lst vs) ∧ Rels K H vs ds
  | .dK kvs => ∃ vs, H a = some (.dK vs) ∧ RelKV K H vs kvs
  | .dT kvs => ∃ vs, H a = some (.dT vs) ∧ RelKV K H vs kvs
  | .ins C dx fs => ∃ vs, H a = some (.ins C dx vs) ∧ RelKV K H vs fs
  | .xd fs => ∃ vs, H a = some (.xd vs) ∧ RelKV K H vs fs
  | .fT od us kvs => ∃ vs, H a = some (.frz od (.dT vs)) ∧ RelKV K H vs kvs ∧ vs = us
  | .fK od us kvs => ∃ vs, H a = some (.frz od (.dK vs)) ∧ RelKV K H vs kvs ∧ vs = us
  | .fTp od ds => ∃ vs, H a = some (.frz od (.tup vs)) ∧ Rels K H vs ds ∧ od.dict = none
  | .xo od C => ∃ z : Addr, H a = some (.frz od (.own z)) ∧ od.cls = .ref C ∧ ∃ vs, od.data = .fields vs
  | .tab q => ∃ ps : Array Value, H a = some (.tbl ps) ∧ TriplesOk ps.toList ∧ ∀ (pos : Pos) (cv : Value), codeAmong pos ps.toList = some cv → ∃ c, cv = .ref c ∧ H c = some (LamX.CodeO c q)
def Con (K : PySem.W.Frag) (H : Hp) (μ : M) : Prop := ∀ a m, μ a = some m → MRel K H a m
abbrev T := List (Option D)
def Slots (K : PySem.W.Frag) (H : Hp) (τ : T) (σ : St) : Prop := τ.length = σ.length ∧ ∀ (i : Nat) (d : D), τ[i]? = some (some d) → ∃ v, σ[i]? = some (some v) ∧ Rel K H v d
/-- what is tracked outside of the store stays, and stays outside -/
def Fr (μ μ' : M) (H H' : Hp) : Prop := ∀ a o, μ a = none → H a = some o → H' a = some o ∧ μ' a = none
section
variable {K : PySem.W.Frag} {H H' H1 H2 : Hp} {μ μ' μ1 μ2 : M} {τ : T} {σ : St}
theorem Fr.refl : Fr μ μ H H := fun _ _ h e => ⟨e, h⟩
theorem Fr.trans (a : Fr μ μ1 H H1) (b : Fr μ1 μ2 H1 H2) : Fr μ μ2 H H2 := fun x o h e => let ⟨e1, h1⟩ := a x o h e; b x o h1 e1
theorem Con.tn (c : Con K H μ) {a : Addr} {xs : List V} (e : H a = some (.tup xs)) : μ a = none := by
  cases q : μ a with
  | none => rfl
  | some m =>
    have r := c a m q
    cases m <;> (obtain ⟨vs, h, _⟩ := r; rw [e] at h; cases h)
theorem Con.fn (c : Con K H μ) {a : Addr} {o : Obj} {u : List V} (e : H a = some (.frz o (.lst u))) : μ a = none := by
  cases q : μ a with
  | none => rfl
  | some m =>
    have r := c a m q
    cases m <;> (obtain ⟨vs, h, _⟩ := r; rw [e] at h; cases h)
theorem Con.free (c : Con K H μ) {a : Addr} (e : H a = none) : μ a = none := by
  cases q : μ a with
  | none => rfl
  | some m =>
    have r := c a m q
    cases m <;> (obtain ⟨vs, h, _⟩ := r; rw [e] at h; cases h)
/-- tuples and read-only lists stay -/
structure Tx (H H' : Hp) : Prop where
  t : ∀ a xs, H a = some (.tup xs) → H' a = some (.tup xs)
  l : ∀ a o xs, H a = some (.frz o (.lst xs)) → H' a = some (.frz o (.lst xs))
  c : ∀ a q, H a = some (LamX.CodeO a q) → H' a = some (LamX.CodeO a q)
theorem Con.cn (c : Con K H μ) {a : Addr} {q : Str} (e : H a = some (LamX.CodeO a q)) : μ a = none := by
  cases h : μ a with
  | none => rfl
  | some m =>
    have r := c a m h
    unfold LamX.CodeO at e
    cases m <;> (obtain ⟨vs, h, _⟩ := r; rw [e] at h; cases h)
theorem Tx.refl : Tx H H := ⟨fun _ _ h => h, fun _ _ _ h => h, fun _ _ h => h⟩
theorem Tx.trans (a : Tx H H1) (b : Tx H1 H2) : Tx H H2 := ⟨fun x xs h => b.t x xs (a.t x xs h), fun x o xs h => b.l x o xs (a.l x o xs h), fun x q h => b.c x q (a.c x q h)⟩
theorem Fr.tx (f : Fr μ μ' H H') (c : Con K H μ) : Tx H H' := ⟨fun a xs e => (f a _ (c.tn e) e).1, fun a o xs e => (f a _ (c.fn e) e).1, fun a q e => (f a _ (c.cn e) e).1⟩
theorem TupAt.mono {a : Addr} {xs : List V} (t : Tx H H') (h : TupAt K H a xs) : TupAt K H' a xs := by
  cases h with
  | inl h => exact .inl (t.t _ _ h)
theorem RolAt.mono {a : Addr} {xs : List V} (t : Tx H H') (h : RolAt K H a xs) : RolAt K H' a xs := by
  rcases h with ⟨o, h⟩ | h
  · exact .inl ⟨o, t.l _ _ _ h⟩
  · exact .inr h
mutual
theorem Rel.mono (t : Tx H H') : ∀ (d : D) (v : V), Rel K H v d → Rel K H' v d
  | .non, _, .non => .non
  | .bl _, _, .bl b => .bl b
  | .int _, _, .int b => .int b
  | .str _, _, .str b => .str b
  | .ty _, _, .ty b => .ty b
  | .ref _, _, .ref b => .ref b
  | .tup ds, _, .tup h r => .tup (h.mono t) (Rels.mono t ds _ r)
  | .rol ds, _, .rol h r => .rol (h.mono t) (Rels.mono t ds _ r)
theorem Rels.mono (t : Tx H H') : ∀ (ds : List D) (vs : List V), Rels K H vs ds → Rels K H' vs ds
  | [], _, .nil => .nil
  | d :: ds, _, .cons a b => .cons (Rel.mono t d _ a) (Rels.mono t ds _ b)
end
theorem RelKV.mono {κ : Type} (t : Tx H H') : ∀ {xs : List (κ × V)} {ys : List (κ × D)}, RelKV K H xs ys → RelKV K H' xs ys
  | _, _, .nil => .nil
  | _, _, .cons a b => .cons ⟨a.1, Rel.mono t _ _ a.2⟩ (RelKV.mono t b)
theorem Slots.mono (t : Tx H H') (s : Slots K H τ σ) : Slots K H' τ σ := ⟨s.1, fun i d e => let ⟨v, h, r⟩ := s.2 i d e; ⟨v, h, Rel.mono t d v r⟩⟩
theorem Rels.length : ∀ {vs : List V} {ds : List D}, Rels K H vs ds → vs.length = ds.length
  | _, _, .nil => rfl
  | _, _, .cons _ b => by rw [List.length_cons, List.length_cons, Rels.length b]
theorem Rels.append : ∀ {vs ws : List V} {ds es : List D}, Rels K H vs ds → Rels K H ws es → Rels K H (vs ++ ws) (ds ++ es)
  | _, _, _, _, .nil, h => h
  | _, _, _, _, .cons a b, h => .cons a (Rels.append b h)
theorem Rels.get : ∀ {vs : List V} {ds : List D} {i : Nat} {d : D}, Rels K H vs ds → ds[i]? = some d → ∃ v, vs[i]? = some v ∧ Rel K H v d
  | _, _, i, d, .nil, e => by simp at e
  | _, _, 0, d, .cons a _, e => ⟨_, rfl, by simp at e; subst e; exact a⟩
  | _, _, i + 1, d, .cons _ b, e => by
    obtain ⟨v, h1, h2⟩ := Rels.get (i := i) (d := d) b (by simpa using e)
    exact ⟨v, by simpa using h1, h2⟩
theorem Rels.getV : ∀ {vs : List V} {ds : List D} {i : Nat} {v : V}, Rels K H vs ds → vs[i]? = some v → ∃ d, ds[i]? = some d ∧ Rel K H v d
  | _, _, i, d, .nil, e => by simp at e
  | _, _, 0, d, .cons a _, e => ⟨_, rfl, by simp at e; subst e; exact a⟩
  | _, _, i + 1, d, .cons _ b, e => by
    obtain ⟨v, h1, h2⟩ := Rels.getV (i := i) (v := d) b (by simpa using e)
    exact ⟨v, by simpa using h1, h2⟩
theorem Rels.set {v : V} {d : D} (r : Rel K H v d) : ∀ {vs : List V} {ds : List D} (i : Nat), Rels K H vs ds → Rels K H (vs.set i v) (ds.set i d)
  | _, _, _, .nil => .nil
  | _, _, 0, .cons _ b => .cons r b
  | _, _, i + 1, .cons a b => .cons a (Rels.set r i b)
theorem Rels.reverse : ∀ {vs : List V} {ds : List D}, Rels K H vs ds → Rels K H vs.reverse ds.reverse
  | _, _, .nil => .nil
  | _, _, .cons a b => by rw [List.reverse_cons, List.reverse_cons]; exact (Rels.reverse b).append (.cons a .nil)
theorem Rels.take : ∀ {vs : List V} {ds : List D} (n : Nat), Rels K H vs ds → Rels K H (vs.take n) (ds.take n)
  | _, _, 0, _ => .nil
  | _, _, _ + 1, .nil => .nil
  | _, _, n + 1, .cons a b => .cons a (Rels.take n b)
theorem Rels.drop : ∀ {vs : List V} {ds : List D} (n : Nat), Rels K H vs ds → Rels K H (vs.drop n) (ds.drop n)
  | _, _, 0, h => h
  | _, _, _ + 1, .nil => .nil
  | _, _, n + 1, .cons _ b => Rels.drop n b
theorem Slots.set {v : V} {d : D} (s : Slots K H τ σ) (r : Rel K H v d) (i : Nat) : Slots K H (τ.set i (some d)) (σ.set i (some v)) := by
  refine ⟨by rw [List.length_set, List.length_set]; exact s.1, fun j e h => ?_⟩
  by_cases hj : i = j
  · subst hj
    by_cases hi : i < τ.length
    · rw [List.getElem?_set_self hi] at h
      cases h
      exact ⟨v, by rw [List.getElem?_set_self (by rw [← s.1]; exact hi)], r⟩
    · rw [List.getElem?_eq_none (by rw [List.length_set]; omega)] at h; cases h
  · rw [List.getElem?_set_ne hj] at h
    obtain ⟨v', e', r'⟩ := s.2 j e h
    exact ⟨v', by rw [List.getElem?_set_ne hj]; exact e', r'⟩
/-- objects other than p are as they were: the store but p is borne again -/
theorem MRel.mono (t : Tx H H') {a : Addr} (e : H' a = H a) : ∀ {m : MO}, MRel K H a m → MRel K H' a m
  | .lst _, ⟨vs, h, r⟩ => ⟨vs, e.trans h, Rels.mono t _ _ r⟩
  | .dK _, ⟨vs, h, r⟩ => ⟨vs, e.trans h, RelKV.mono t r⟩
  | .dT _, ⟨vs, h, r⟩ => ⟨vs, e.trans h, RelKV.mono t r⟩
  | .ins _ _ _, ⟨vs, h, r⟩ => ⟨vs, e.trans h, RelKV.mono t r⟩
  | .xd _, ⟨vs, h, r⟩ => ⟨vs, e.trans h, RelKV.mono t r⟩
  | .fT _ _ _, ⟨vs, h, r, z⟩ => ⟨vs, e.trans h, RelKV.mono t r, z⟩
  | .fK _ _ _, ⟨vs, h, r, z⟩ => ⟨vs, e.trans h, RelKV.mono t r, z⟩
  | .fTp _ _, ⟨vs, h, r, z⟩ => ⟨vs, e.trans h, Rels.mono t _ _ r, z⟩
  | .xo _ _, ⟨u, h, r⟩ => ⟨u, e.trans h, r⟩
  | .tab _, ⟨ps, h, z, r⟩ => ⟨ps, e.trans h, z, fun pos cv q => let ⟨c, e1, e2⟩ := r pos cv q; ⟨c, e1, t.c _ _ e2⟩⟩
/-- a new untracked-by-the-store object -/
theorem tx_new {p : Addr} {o : HO} (n : H p = none) : Tx H (upd H p o) := ⟨fun a xs e => by rw [upd_ne (ne_of_none e n)]; exact e, fun a ob xs e => by rw [upd_ne (ne_of_none e n)]; exact e, fun a q e => by rw [upd_ne (ne_of_none e n)]; exact e⟩
theorem con_new {p : Addr} {o : HO} (n : H p = none) (c : Con K H μ) : Con K (upd H p o) μ := fun a m e => by
  have ha : a ≠ p := fun z => by subst z; rw [c.free n] at e; cases e
  exact (c a m e).mono (tx_new n) (upd_ne ha)
theorem fr_new {p : Addr} {o : HO} (n : H p = none) : Fr μ μ H (upd H p o) := fun a u h e => ⟨by rw [upd_ne (ne_of_none e n)]; exact e, h⟩
/-- .. and in the store -/
theorem con_put {p : Addr} {o : HO} {m : MO} (n : H p = none) (c : Con K H μ) (r : MRel K (upd H p o) p m) : Con K (upd H p o) (μ.set p m) := fun a m' e => by
  by_cases ha : a = p
  · subst ha; rw [set_same] at e; cases e; exact r
  · rw [set_ne ha] at e
    exact (c a m' e).mono (tx_new n) (upd_ne ha)
theorem fr_put {p : Addr} {o : HO} {m : MO} (n : H p = none) : Fr μ (μ.set p m) H (upd H p o) := fun a u h e => by
  have ha : a ≠ p := ne_of_none e n
  exact ⟨by rw [upd_ne ha]; exact e, by rw [set_ne ha]; exact h⟩
/-- an object of the store is changed -/
theorem tx_mut {p : Addr} {o : HO} {m : MO} (c : Con K H μ) (h : μ p = some m) : Tx H (upd H p o) :=
  ⟨fun a xs e => by rw [upd_ne (fun z => by subst z; rw [c.tn e] at h; cases h)]; exact e, fun a ob xs e => by rw [upd_ne (fun z => by subst z; rw [c.fn e] at h; cases h)]; exact e, fun a q e => by rw [upd_ne (fun z => by subst z; rw [c.cn e] at h; cases h)]; exact e⟩
theorem con_mut {p : Addr} {o : HO} {m m' : MO} (c : Con K H μ) (h : μ p = some m) (r : MRel K (upd H p o) p m') : Con K (upd H p o) (μ.set p m') := fun a u e => by
  by_cases ha : a = p
  · subst ha; rw [set_same] at e; cases e; exact r
  · rw [set_ne ha] at e
    exact (c a u e).mono (tx_mut c h) (upd_ne ha)
theorem fr_mut {p : Addr} {o : HO} {m m' : MO} (h : μ p = some m) : Fr μ (μ.set p m') H (upd H p o) := fun a u n e => by
  have ha : a ≠ p := fun z => by subst z; rw [n] at h; cases h
  exact ⟨by rw [upd_ne ha]; exact e, by rw [set_ne ha]; exact n⟩
/-- the store forgotten in part -/
def Sub (μ μ' : M) : Prop := ∀ a m, μ a = some m → μ' a = some m
theorem Sub.refl : Sub μ μ := fun _ _ h => h
theorem Sub.trans (a : Sub μ μ1) (b : Sub μ1 μ2) : Sub μ μ2 := fun x m h => b x m (a x m h)
theorem Sub.set {p : Addr} {m : MO} (h : μ p = none) : Sub μ (μ.set p m) := fun a m' e => by rw [set_ne (fun z => by subst z; rw [h] at e; cases e)]; exact e
theorem Con.sub (s : Sub μ μ') (c : Con K H μ') : Con K H μ := fun a m e => c a m (s a m e)
theorem Sub.none (s : Sub μ μ') {a : Addr} (h : μ' a = Option.none) : μ a = Option.none := by
  cases q : μ a with
  | none => rfl
  | some m => rw [s a m q] at h; cases h
theorem Fr.sub (f : Fr μ μ1 H H1) (s : Sub μ2 μ1) : Fr μ μ2 H H1 := fun a o n e => let ⟨e1, h1⟩ := f a o n e; ⟨e1, s.none h1⟩
end
def AE (K : PySem.W.Frag) (t : TE) (τ : T) (μ : M) (Φ : D → M → Prop) : Prop :=
  ∀ σ H, Slots K H τ σ → Con K H μ → ∀ Q : VK, (∀ d μ' v H', Fr μ μ' H H' → Con K H' μ' → Rel K H' v d → Φ d μ' → Q v H') → t σ H Q
def AA (K : PySem.W.Frag) (t : TA) (τ : T) (μ : M) (Φ : List D → M → Prop) : Prop :=
  ∀ σ H, Slots K H τ σ → Con K H μ → ∀ Q : List V → Hp → Prop, (∀ d μ' v H', Fr μ μ' H H' → Con K H' μ' → Rels K H' v d → Φ d μ' → Q v H') → t σ H Q
def AT (K : PySem.W.Frag) (t : TT) (τ : T) (μ : M) (Φ : Bool → M → Prop) : Prop :=
  ∀ σ H, Slots K H τ σ → Con K H μ → ∀ Q : Bool → Hp → Prop, (∀ b μ' H', Fr μ μ' H H' → Con K H' μ' → Φ b μ' → Q b H') → t σ H Q
structure AEnds where
  nx : T → M → Prop
  rt : D → M → Prop
  bk : T → M → Prop := fun _ _ => False
  ct : T → M → Prop := fun _ _ => False
  /-- what is wished of an exception; what the names of classes stand for; what holds where one is raised -/
  W : WX := fun _ _ _ _ => False
  cn : Str → Option Value := fun _ => none
  xs : Str → Option Addr → T → M → Prop := fun _ _ _ _ => False
/-- the concrete ends that follow from the abstract ones -/
structure EndsOk (K : PySem.W.Frag) (N : AEnds) (μ : M) (H : Hp) (E : Ends) : Prop where
  nx : ∀ τ' μ' σ' H', Fr μ μ' H H' → Con K H' μ' → Slots K H' τ' σ' → N.nx τ' μ' → E.nx σ' H'
  rt : ∀ d μ' v H', Fr μ μ' H H' → Con K H' μ' → Rel K H' v d → N.rt d μ' → E.rt v H'
  bk : ∀ τ' μ' σ' H', Fr μ μ' H H' → Con K H' μ' → Slots K H' τ' σ' → N.bk τ' μ' → E.bk σ' H'
  ct : ∀ τ' μ' σ' H', Fr μ μ' H H' → Con K H' μ' → Slots K H' τ' σ' → N.ct τ' μ' → E.ct σ' H'
  wx : ∀ x dx τ' μ' cls σ' H', N.cn x = some cls → Fr μ μ' H H' → Con K H' μ' → Slots K H' τ' σ' → N.xs x dx τ' μ' → N.W cls dx σ' H'
def AS (K : PySem.W.Frag) (t : TS) (τ : T) (μ : M) (N : AEnds) : Prop :=
  ∀ σ H, Slots K H τ σ → Con K H μ → ∀ E : Ends, EndsOk K N μ H E → t E σ H
/-- a target -/
def AG (K : PySem.W.Frag) (g : TG) (d : D) (τ : T) (μ : M) (Φ : T → M → Prop) : Prop :=
  ∀ σ H v, Slots K H τ σ → Con K H μ → Rel K H v d → ∀ Q : St → Hp → Prop, (∀ τ' μ' σ' H', Fr μ μ' H H' → Con K H' μ' → Slots K H' τ' σ' → Φ τ' μ' → Q σ' H') → g v σ H Q
def AGs (K : PySem.W.Frag) (g : TGs) (ds : List D) (τ : T) (μ : M) (Φ : T → M → Prop) : Prop :=
  ∀ σ H vs, Slots K H τ σ → Con K H μ → Rels K H vs ds → ∀ Q : St → Hp → Prop, (∀ τ' μ' σ' H', Fr μ μ' H H' → Con K H' μ' → Slots K H' τ' σ' → Φ τ' μ' → Q σ' H') → g vs σ H Q
/-- an operation on values -/
def RO (K : PySem.W.Frag) (r : R2) (d e : D) (μ : M) (Φ : D → M → Prop) : Prop :=
  ∀ H x y, Con K H μ → Rel K H x d → Rel K H y e → ∀ Q : VK, (∀ z μ' v H', Fr μ μ' H H' → Con K H' μ' → Rel K H' v z → Φ z μ' → Q v H') → r x y H Q
def RU (K : PySem.W.Frag) (r : V → Hp → VK → Prop) (d : D) (μ : M) (Φ : D → M → Prop) : Prop :=
  ∀ H x, Con K H μ → Rel K H x d → ∀ Q : VK, (∀ z μ' v H', Fr μ μ' H H' → Con K H' μ' → Rel K H' v z → Φ z μ' → Q v H') → r x H Q
def RC (K : PySem.W.Frag) (r : List V → Hp → VK → Prop) (ds : List D) (μ : M) (Φ : D → M → Prop) : Prop :=
  ∀ H xs, Con K H μ → Rels K H xs ds → ∀ Q : VK, (∀ z μ' v H', Fr μ μ' H H' → Con K H' μ' → Rel K H' v z → Φ z μ' → Q v H') → r xs H Q
section
variable {K : PySem.W.Frag} {τ : T} {μ : M} {Φ Ψ : D → M → Prop} {ta tb te : TE} {r : R2} {t u : TT} {x y z d e : D}
theorem AE.imp (h : AE K te τ μ Φ) (k : ∀ d μ', Φ d μ' → Ψ d μ') : AE K te τ μ Ψ := fun σ H s c Q q => h σ H s c Q fun d μ' v H' f c' r p => q d μ' v H' f c' r (k d μ' p)
theorem AT.imp {Φ Ψ : Bool → M → Prop} (h : AT K t τ μ Φ) (k : ∀ d μ', Φ d μ' → Ψ d μ') : AT K t τ μ Ψ := fun σ H s c Q q => h σ H s c Q fun d μ' H' f c' p => q d μ' H' f c' (k d μ' p)
theorem a_var {i : Nat} (h : τ[i]? = some (some d)) (q : Φ d μ) : AE K (tVar i) τ μ Φ := fun σ H s c Q k => by
  obtain ⟨v, e, r⟩ := s.2 i d h
  exact ⟨v, e, k d μ v H Fr.refl c r q⟩
theorem a_int {n : Int} (q : Φ (.int n) μ) : AE K (tC (.int n)) τ μ Φ := fun σ H s c Q k => k _ μ _ H Fr.refl c (.int n) q
theorem a_bl {n : Bool} (q : Φ (.bl n) μ) : AE K (tC (.bl n)) τ μ Φ := fun σ H s c Q k => k _ μ _ H Fr.refl c (.bl n) q
theorem a_str {n : Str} (q : Φ (.str n) μ) : AE K (tC (.str n)) τ μ Φ := fun σ H s c Q k => k _ μ _ H Fr.refl c (.str n) q
theorem a_non (q : Φ .non μ) : AE K (tC .non) τ μ Φ := fun σ H s c Q k => k _ μ _ H Fr.refl c .non q
theorem a_ty {n : String} (q : Φ (.ty n) μ) : AE K (tC (.ty n)) τ μ Φ := fun σ H s c Q k => k _ μ _ H Fr.refl c (.ty n) q
theorem a_op (h : AE K ta τ μ fun d μ1 => AE K tb τ μ1 fun e μ2 => RO K r d e μ2 Φ) : AE K (tOp r ta tb) τ μ Φ := fun σ H s c Q k =>
  h σ H s c _ fun d μ1 v H1 f1 c1 r1 p1 => p1 σ H1 (s.mono (f1.tx c)) c1 _ fun e μ2 u H2 f2 c2 r2 p2 =>
    p2 H2 v u c2 (Rel.mono (f2.tx c1) _ _ r1) r2 Q fun z μ' w H' f c' rz pz => k z μ' w H' ((f1.trans f2).trans f) c' rz pz
theorem a_un {r : V → Hp → VK → Prop} (h : AE K ta τ μ fun d μ1 => RU K r d μ1 Φ) : AE K (tUn r ta) τ μ Φ := fun σ H s c Q k =>
  h σ H s c _ fun d μ1 v H1 f1 c1 r1 p1 => p1 H1 v c1 r1 Q fun z μ' w H' f c' rz pz => k z μ' w H' (f1.trans f) c' rz pz
theorem aa_nil {Φ : List D → M → Prop} (q : Φ [] μ) : AA K tNil τ μ Φ := fun σ H s c Q k => k _ μ _ H Fr.refl c .nil q
theorem aa_cons {Φ : List D → M → Prop} {tr : TA} (h : AE K ta τ μ fun d μ1 => AA K tr τ μ1 fun ds μ2 => Φ (d :: ds) μ2) : AA K (tCons ta tr) τ μ Φ := fun σ H s c Q k =>
  h σ H s c _ fun d μ1 v H1 f1 c1 r1 p1 => p1 σ H1 (s.mono (f1.tx c)) c1 _ fun ds μ2 us H2 f2 c2 r2 p2 => k _ μ2 _ H2 (f1.trans f2) c2 (.cons (Rel.mono (f2.tx c1) _ _ r1) r2) p2
theorem a_tup {ta : TA} (h : AA K ta τ μ fun ds μ1 => ds.length ≤ sizeLine ∧ Φ (.tup ds) μ1) : AE K (tTup ta) τ μ Φ := fun σ H s c Q k =>
  h σ H s c _ fun ds μ1 vs H1 f1 c1 r1 ⟨hz, p1⟩ => ⟨by rw [r1.length]; exact hz, fun p hp => k _ μ1 _ _ (f1.trans (fr_new hp)) (con_new hp c1) (.tup (.inl upd_same) (Rels.mono (tx_new hp) _ _ r1)) p1⟩
theorem a_lst {ta : TA} (h : AA K ta τ μ fun ds μ1 => ds.length ≤ sizeLine ∧ ∀ p, μ1 p = none → Φ (.ref p) (μ1.set p (.lst ds))) : AE K (tLst ta) τ μ Φ := fun σ H s c Q k =>
  h σ H s c _ fun ds μ1 vs H1 f1 c1 r1 ⟨hz, p1⟩ => ⟨by rw [r1.length]; exact hz, fun p hp => k _ _ _ _ (f1.trans (fr_put hp)) (con_put (m := .lst ds) hp c1 ⟨vs, upd_same, Rels.mono (tx_new hp) _ _ r1⟩) (.ref p) (p1 p (c1.free hp))⟩
theorem a_cb {r : List V → Hp → VK → Prop} {ta : TA} (h : AA K ta τ μ fun ds μ1 => RC K r ds μ1 Φ) : AE K (tCB r ta) τ μ Φ := fun σ H s c Q k =>
  h σ H s c _ fun ds μ1 vs H1 f1 c1 r1 p1 => p1 H1 vs c1 r1 Q fun z μ' w H' f c' rz pz => k z μ' w H' (f1.trans f) c' rz pz
theorem a_if (h : AT K t τ μ fun b μ1 => if b = true then AE K ta τ μ1 Φ else AE K tb τ μ1 Φ) : AE K (tIf t ta tb) τ μ Φ := fun σ H s c Q k =>
  h σ H s c _ fun b μ1 H1 f1 c1 p1 => by
    cases b with
    | true => exact (show AE K ta τ μ1 Φ from p1) σ H1 (s.mono (f1.tx c)) c1 Q fun z μ' w H' f c' rz pz => k z μ' w H' (f1.trans f) c' rz pz
    | false => exact (show AE K tb τ μ1 Φ from p1) σ H1 (s.mono (f1.tx c)) c1 Q fun z μ' w H' f c' rz pz => k z μ' w H' (f1.trans f) c' rz pz
theorem a_andV (h : AE K ta τ μ fun d μ1 => ∃ b, d = .bl b ∧ if b = true then AE K tb τ μ1 Φ else Φ (.bl false) μ1) : AE K (tAndV ta tb) τ μ Φ := fun σ H s c Q k =>
  h σ H s c _ fun d μ1 v H1 f1 c1 r1 ⟨b, e, p1⟩ => by
    subst e
    cases r1
    refine ⟨b, rfl, ?_⟩
    cases b with
    | true => exact (show AE K tb τ μ1 Φ from p1) σ H1 (s.mono (f1.tx c)) c1 Q fun z μ' w H' f c' rz pz => k z μ' w H' (f1.trans f) c' rz pz
    | false => exact k _ μ1 _ H1 f1 c1 (.bl false) (show Φ (.bl false) μ1 from p1)
theorem a_orV (h : AE K ta τ μ fun d μ1 => ∃ b, d = .bl b ∧ if b = true then Φ (.bl true) μ1 else AE K tb τ μ1 Φ) : AE K (tOrV ta tb) τ μ Φ := fun σ H s c Q k =>
  h σ H s c _ fun d μ1 v H1 f1 c1 r1 ⟨b, e, p1⟩ => by
    subst e
    cases r1
    refine ⟨b, rfl, ?_⟩
    cases b with
    | true => exact k _ μ1 _ H1 f1 c1 (.bl true) (show Φ (.bl true) μ1 from p1)
    | false => exact (show AE K tb τ μ1 Φ from p1) σ H1 (s.mono (f1.tx c)) c1 Q fun z μ' w H' f c' rz pz => k z μ' w H' (f1.trans f) c' rz pz
theorem a_notV (h : AE K ta τ μ fun d μ1 => ∃ b, d = .bl b ∧ Φ (.bl (!b)) μ1) : AE K (tNotV ta) τ μ Φ := fun σ H s c Q k =>
  h σ H s c _ fun d μ1 v H1 f1 c1 r1 ⟨b, e, p1⟩ => by
    subst e
    cases r1
    exact ⟨b, rfl, k _ μ1 _ H1 f1 c1 (.bl _) p1⟩
variable {Θ : Bool → M → Prop}
theorem at_test (h : AE K te τ μ fun d μ1 => ∃ b, d = .bl b ∧ Θ b μ1) : AT K (tTest te) τ μ Θ := fun σ H s c Q k =>
  h σ H s c _ fun d μ1 v H1 f1 c1 r1 ⟨b, e, p1⟩ => by
    subst e
    cases r1
    exact ⟨b, rfl, k b μ1 H1 f1 c1 p1⟩
theorem at_B (h : AE K te τ μ fun d μ1 => ∃ b, d = .bl b ∧ Θ b μ1) : AT K (tB te) τ μ Θ := fun σ H s c Q k =>
  h σ H s c _ fun d μ1 v H1 f1 c1 r1 ⟨b, e, p1⟩ => by
    subst e
    cases r1
    exact ⟨b, rfl, k b μ1 H1 f1 c1 p1⟩
theorem at_and (h : AT K t τ μ fun b μ1 => if b = true then AT K u τ μ1 Θ else Θ false μ1) : AT K (tAnd t u) τ μ Θ := fun σ H s c Q k =>
  h σ H s c _ fun b μ1 H1 f1 c1 p1 => by
    cases b with
    | true => exact (show AT K u τ μ1 Θ from p1) σ H1 (s.mono (f1.tx c)) c1 Q fun z μ' H' f c' pz => k z μ' H' (f1.trans f) c' pz
    | false => exact k false μ1 H1 f1 c1 (show Θ false μ1 from p1)
theorem at_or (h : AT K t τ μ fun b μ1 => if b = true then Θ true μ1 else AT K u τ μ1 Θ) : AT K (tOr t u) τ μ Θ := fun σ H s c Q k =>
  h σ H s c _ fun b μ1 H1 f1 c1 p1 => by
    cases b with
    | true => exact k true μ1 H1 f1 c1 (show Θ true μ1 from p1)
    | false => exact (show AT K u τ μ1 Θ from p1) σ H1 (s.mono (f1.tx c)) c1 Q fun z μ' H' f c' pz => k z μ' H' (f1.trans f) c' pz
theorem at_not (h : AT K t τ μ fun b μ1 => Θ (!b) μ1) : AT K (tNot t) τ μ Θ := fun σ H s c Q k => h σ H s c _ fun b μ1 H1 f1 c1 p1 => k (!b) μ1 H1 f1 c1 p1
end
end Z
namespace Z
open PySem L2
section
variable {K : PySem.W.Frag} {τ : T} {μ μ1 μ2 : M} {H H1 H2 : Hp} {σ : L2.St} {Φ Ψ : D → M → Prop} {ta tb tc te : TE} {r r' : R2} {t u : TT} {x y z d e : D} {N : AEnds} {ts us : TS} {g : TG} {D0 E : Ends}
theorem EndsOk.step {μ' : M} {H' : Hp} (k : EndsOk K N μ H E) (f : Fr μ μ' H H') : EndsOk K N μ' H' E :=
  ⟨fun a b c d' f' => k.nx a b c d' (f.trans f'), fun a b c d' f' => k.rt a b c d' (f.trans f'), fun a b c d' f' => k.bk a b c d' (f.trans f'), fun a b c d' f' => k.ct a b c d' (f.trans f'), fun x1 x2 x3 x4 x5 x6 x7 x8 f' => k.wx x1 x2 x3 x4 x5 x6 x7 x8 (f.trans f')⟩
theorem s_seq (h : AS K ts τ μ { N with nx := fun τ' μ' => AS K us τ' μ' N }) : AS K (tSeq ts us) τ μ N := fun σ H s c E k =>
  h σ H s c _ ⟨fun τ' μ' σ' H' f c' s' p => p σ' H' s' c' E (k.step f), k.rt, k.bk, k.ct, k.wx⟩
theorem s_next (h : N.nx τ μ) : AS K tNext τ μ N := fun σ H s c E k => k.nx τ μ σ H Fr.refl c s h
theorem s_drop (h : AE K te τ μ fun _ μ' => N.nx τ μ') : AS K (tDrop te) τ μ N := fun σ H s c E k =>
  h σ H s c _ fun d μ' v H' f c' r p => k.nx τ μ' σ H' f c' (s.mono (f.tx c)) p
theorem s_ret (h : AE K te τ μ N.rt) : AS K (tRet te) τ μ N := fun σ H s c E k => h σ H s c _ fun d μ' v H' f c' r p => k.rt d μ' v H' f c' r p
theorem s_retN (h : N.rt .non μ) : AS K tRetN τ μ N := fun σ H s c E k => k.rt .non μ .non H Fr.refl c .non h
theorem s_if (h : AT K t τ μ fun b μ' => if b = true then AS K ts τ μ' N else AS K us τ μ' N) : AS K (tIfS t ts us) τ μ N := fun σ H s c E k =>
  h σ H s c _ fun b μ' H' f c' p => by
    cases b with
    | true => exact (show AS K ts τ μ' N from p) σ H' (s.mono (f.tx c)) c' E (k.step f)
    | false => exact (show AS K us τ μ' N from p) σ H' (s.mono (f.tx c)) c' E (k.step f)
theorem s_asg (h : AE K te τ μ fun d μ' => AG K g d τ μ' N.nx) : AS K (tAsg te g) τ μ N := fun σ H s c E k =>
  h σ H s c _ fun d μ' v H' f c' r p => p σ H' v (s.mono (f.tx c)) c' r _ fun τ2 μ2 σ2 H2 f2 c2 s2 q => k.nx τ2 μ2 σ2 H2 (f.trans f2) c2 s2 q
theorem g_name {i : Nat} {Θ : T → M → Prop} (h : Θ (τ.set i (some d)) μ) : AG K (gName i) d τ μ Θ := fun σ H v s c r Q k => k _ μ _ H Fr.refl c (s.set r i) h
theorem gs_nil {Θ : T → M → Prop} (h : Θ τ μ) : AGs K gNil [] τ μ Θ := fun σ H vs s c r Q k => by
  cases r
  exact ⟨rfl, k τ μ σ H Fr.refl c s h⟩
theorem gs_cons {gs : TGs} {ds : List D} {Θ : T → M → Prop} (h : AG K g d τ μ fun τ' μ' => AGs K gs ds τ' μ' Θ) : AGs K (gCons g gs) (d :: ds) τ μ Θ := fun σ H vs s c r Q k => by
  cases r with
  | cons r1 r2 =>
    rename_i v vs'
    exact ⟨v, vs', rfl, h σ H v s c r1 _ fun τ' μ' σ' H' f c' s' p => p σ' H' vs' s' c' (Rels.mono (f.tx c) _ _ r2) Q fun τ2 μ2 σ2 H2 f2 c2 s2 q => k τ2 μ2 σ2 H2 (f.trans f2) c2 s2 q⟩
theorem g_tup {n : Nat} {gs : TGs} {ds : List D} {Θ : T → M → Prop} (hn : ds.length = n) (h : AGs K gs ds τ μ Θ) : AG K (gTup K n gs) (.tup ds) τ μ Θ := fun σ H v s c r Q k => by
  cases r with
  | tup ht hr => exact ⟨_, _, rfl, ht.sq, by rw [hr.length]; exact hn, h σ H _ s c hr Q k⟩
/-- o[i] = v -/
def ASet (K : PySem.W.Frag) (t : TSet) (o i d : D) (μ : M) (Θ : M → Prop) : Prop :=
  ∀ H a b v, Con K H μ → Rel K H a o → Rel K H b i → Rel K H v d → ∀ Q : Hp → Prop, (∀ μ' H', Fr μ μ' H H' → Con K H' μ' → Θ μ' → Q H') → t a b v H Q
theorem g_sub {to ti : TE} {tset : TSet} {Θ : T → M → Prop} (h : AE K to τ μ fun o μ1 => AE K ti τ μ1 fun i μ2 => ASet K tset o i d μ2 fun μ3 => Θ τ μ3) : AG K (gSub to ti tset) d τ μ Θ := fun σ H v s c r Q k =>
  h σ H s c _ fun o μ1 a H1 f1 c1 r1 p1 => p1 σ H1 (s.mono (f1.tx c)) c1 _ fun i μ2 b H2 f2 c2 r2 p2 =>
    p2 H2 a b v c2 (Rel.mono (f2.tx c1) _ _ r1) r2 (Rel.mono ((f1.trans f2).tx c) _ _ r) _ fun μ3 H3 f3 c3 p3 => k τ μ3 σ H3 ((f1.trans f2).trans f3) c3 (s.mono (((f1.trans f2).trans f3).tx c)) p3
theorem s_par {i j : Nat} {ta : TA} (h : AA K ta τ μ fun ds μ' => ∃ d e, ds = [d, e] ∧ N.nx ((τ.set i (some d)).set j (some e)) μ') : AS K (tPar i j ta) τ μ N := fun σ H s c E k =>
  h σ H s c _ fun ds μ' vs H' f c' r ⟨d, e, q, p⟩ => by
    subst q
    cases r with
    | cons r1 r2 =>
      cases r2 with
      | cons r2 r3 =>
        cases r3
        exact ⟨_, _, rfl, k.nx _ μ' _ H' f c' (((s.mono (f.tx c)).set r1 i).set r2 j) p⟩
/-- a op= b, by values -/
theorem s_aug {i : Nat} {ti : TIp} (hx : τ[i]? = some (some d)) (h : AE K te τ μ fun e μ1 => RO K ti d e μ1 fun z μ2 => N.nx (τ.set i (some z)) μ2) : AS K (tAug i te ti) τ μ N := fun σ H s c E k => by
  obtain ⟨v, e1, r1⟩ := s.2 i d hx
  exact ⟨v, e1, h σ H s c _ fun e μ1 u H1 f1 c1 r2 p1 => p1 H1 v u c1 (Rel.mono (f1.tx c) _ _ r1) r2 _ fun z μ2 w H2 f2 c2 rz p2 =>
    k.nx _ μ2 _ H2 (f1.trans f2) c2 ((s.mono ((f1.trans f2).tx c)).set rz i) p2⟩
/-- a statement, then the rest, with a word between -/
theorem s_cut {M0 : T → M → Prop} (h : AS K ts τ μ { N with nx := M0 }) (k : ∀ τ' μ', M0 τ' μ' → AS K us τ' μ' N) : AS K (tSeq ts us) τ μ N := s_seq fun σ H s c E q => h σ H s c E ⟨fun τ' μ' σ' H' f c' s' p => q.nx τ' μ' σ' H' f c' s' (k τ' μ' p), q.rt, q.bk, q.ct, q.wx⟩
theorem AS.imp {nx' bk' ct' : T → M → Prop} {rt' : D → M → Prop} (h : AS K ts τ μ N) (h1 : ∀ a b, N.nx a b → nx' a b) (h2 : ∀ a b, N.rt a b → rt' a b) (h3 : ∀ a b, N.bk a b → bk' a b) (h4 : ∀ a b, N.ct a b → ct' a b) : AS K ts τ μ { N with nx := nx', rt := rt', bk := bk', ct := ct' } := fun σ H s c E q =>
  h σ H s c E ⟨fun a b c' d' f x y p => q.nx a b c' d' f x y (h1 _ _ p), fun a b c' d' f x y p => q.rt a b c' d' f x y (h2 _ _ p), fun a b c' d' f x y p => q.bk a b c' d' f x y (h3 _ _ p), fun a b c' d' f x y p => q.ct a b c' d' f x y (h4 _ _ p), q.wx⟩
theorem s_while {tt : TT} {tb : TS} (W : Nat → T → M → Prop) (m0 : Nat) (h0 : W m0 τ μ)
    (hs : ∀ m τ' μ', W m τ' μ' → AT K tt τ' μ' fun b μ1 => if b = true then AS K tb τ' μ1 { N with nx := fun τ2 μ2 => ∃ m', m' < m ∧ W m' τ2 μ2, ct := fun τ2 μ2 => ∃ m', m' < m ∧ W m' τ2 μ2, bk := N.nx } else N.nx τ' μ1) :
    AS K (tWhile tt tb) τ μ N := fun σ H s c E k =>
  ⟨fun m σ' H' => ∃ τ' μ', Fr μ μ' H H' ∧ Con K H' μ' ∧ Slots K H' τ' σ' ∧ W m τ' μ', ⟨m0, τ, μ, Fr.refl, c, s, h0⟩, fun m σ' H' ⟨τ', μ', f, c', s', w⟩ =>
    hs m τ' μ' w σ' H' s' c' _ fun b μ1 H1 f1 c1 p => by
      cases b with
      | true =>
        refine ⟨fun σ2 H2 => ∃ m', m' < m ∧ ∃ τ' μ', Fr μ μ' H H2 ∧ Con K H2 μ' ∧ Slots K H2 τ' σ2 ∧ W m' τ' μ', fun σ2 H2 q => q, ?_⟩
        refine (show AS K tb τ' μ1 _ from p) σ' H1 (s'.mono (f1.tx c')) c1 _ ⟨fun τ2 μ2 σ2 H2 f2 c2 s2 ⟨m', hm, w'⟩ => ⟨m', hm, τ2, μ2, (f.trans f1).trans f2, c2, s2, w'⟩, fun d' μ2 v H2 f2 => k.rt d' μ2 v H2 ((f.trans f1).trans f2), fun τ2 μ2 σ2 H2 f2 c2 s2 q => k.nx τ2 μ2 σ2 H2 ((f.trans f1).trans f2) c2 s2 q, fun τ2 μ2 σ2 H2 f2 c2 s2 ⟨m', hm, w'⟩ => ⟨m', hm, τ2, μ2, (f.trans f1).trans f2, c2, s2, w'⟩, fun x1 x2 x3 x4 x5 x6 x7 x8 f' => k.wx x1 x2 x3 x4 x5 x6 x7 x8 ((f.trans f1).trans f')⟩
      | false => exact k.nx τ' μ1 σ' H1 (f.trans f1) c1 (s'.mono (f1.tx c')) (show N.nx τ' μ1 from p)⟩
/-- the ends of a turn -/
def turnE (N : AEnds) (P : T → M → Prop) : AEnds := { N with nx := P, ct := P, bk := N.nx }
theorem turn_ok {μ0 : M} {H0 : Hp} {P : T → M → Prop} {Pc : L2.St → Hp → Prop} (k : EndsOk K N μ0 H0 E) (f : Fr μ0 μ H0 H) (hp : ∀ τ' μ' σ' H', Fr μ0 μ' H0 H' → Con K H' μ' → Slots K H' τ' σ' → P τ' μ' → Pc σ' H') :
    EndsOk K (turnE N P) μ H { E with nx := Pc, ct := Pc, bk := E.nx } :=
  ⟨fun τ' μ' σ' H' f' c s p => hp τ' μ' σ' H' (f.trans f') c s p, fun d' μ' v H' f' => k.rt d' μ' v H' (f.trans f'), fun τ' μ' σ' H' f' => k.nx τ' μ' σ' H' (f.trans f'), fun τ' μ' σ' H' f' c s p => hp τ' μ' σ' H' (f.trans f') c s p, fun x1 x2 x3 x4 x5 x6 x7 x8 f' => k.wx x1 x2 x3 x4 x5 x6 x7 x8 (f.trans f')⟩
/-- the list a is set aside while it is walked -/
def M.del (μ : M) (a : Addr) : M := fun b => if b = a then none else μ b
theorem del_same {a : Addr} : μ.del a a = none := by unfold M.del; rw [if_pos rfl]
theorem del_ne {a b : Addr} (h : b ≠ a) : μ.del a b = μ b := by unfold M.del; rw [if_neg h]
theorem del_sub {a : Addr} : Sub (μ.del a) μ := fun b m e => by
  by_cases h : b = a
  · subst h; rw [del_same] at e; cases e
  · rw [del_ne h] at e; exact e
theorem fr_back {μ0 μ' : M} {H0 H' : Hp} {a : Addr} {m m' : MO} (ha : μ1 a = some m) (f1 : Fr μ0 μ1 H0 H1) (f : Fr (μ1.del a) μ' H1 H') : Fr μ0 (μ'.set a m') H0 H' := fun x o n e => by
  obtain ⟨e1, n1⟩ := f1 x o n e
  have hx : x ≠ a := fun z => by subst z; rw [n1] at ha; cases ha
  obtain ⟨e2, n2⟩ := f x o (by rw [del_ne hx]; exact n1) e1
  exact ⟨e2, by rw [set_ne hx]; exact n2⟩
theorem con_back {μ' : M} {a : Addr} {m : MO} (c : Con K H μ') (r : MRel K H a m) : Con K H (μ'.set a m) := fun x u e => by
  by_cases hx : x = a
  · subst hx; rw [set_same] at e; cases e; exact r
  · rw [set_ne hx] at e; exact c x u e
/-- for over a range -/
theorem s_forN {wi : TI} {lo : Int} {n : Nat} {tb : TS} (P : Nat → T → M → Prop) (hw : ∀ σ H, Slots K H τ σ → Con K H μ → ∀ R : It → Hp → Prop, (∀ μ1 H1, Fr μ μ1 H H1 → Con K H1 μ1 → P 0 τ μ1 → R (Itr lo n) H1) → wi σ H R)
    (hs : ∀ (i : Nat) τ' μ', i < n → P i τ' μ' → AG K g (.int (lo + i)) τ' μ' fun τ2 μ2 => AS K tb τ2 μ2 (turnE N (P (i + 1)))) (hd : ∀ τ' μ', P n τ' μ' → N.nx τ' μ') : AS K (tFor wi g tb) τ μ N := fun σ H s c E k =>
  hw σ H s c _ fun μ1 H1 f1 c1 p0 => by
    refine for_range (lo := lo) (n := n) (fun i σ' H' => ∃ τ' μ', Fr μ μ' H H' ∧ Con K H' μ' ∧ Slots K H' τ' σ' ∧ P i τ' μ') ⟨τ, μ1, f1, c1, s.mono (f1.tx c), p0⟩ ?_ ?_
    · rintro i σ' H' hi ⟨τ', μ', f, c', s', p⟩
      refine hs i τ' μ' hi p σ' H' _ s' c' (.int _) _ fun τ2 μ2 σ2 H2 f2 c2 s2 q => ?_
      exact q σ2 H2 s2 c2 _ (turn_ok (k.step f) f2 fun τ3 μ3 σ3 H3 f3 c3 s3 p3 => ⟨τ3, μ3, f.trans f3, c3, s3, p3⟩)
    · rintro σ' H' ⟨τ', μ', f, c', s', p⟩
      exact k.nx τ' μ' σ' H' f c' s' (hd τ' μ' p)
theorem s_for1 {ta : TA} {tb : TS} (n : Int) (P : Nat → T → M → Prop) (h : AA K ta τ μ fun ds μ1 => ds = [.int n] ∧ -(2 ^ 62) ≤ n ∧ n < 2 ^ 62 ∧ P 0 τ μ1)
    (hs : ∀ (i : Nat) τ' μ', (i : Int) < n → P i τ' μ' → AG K g (.int i) τ' μ' fun τ2 μ2 => AS K tb τ2 μ2 (turnE N (P (i + 1)))) (hd : ∀ τ' μ', P n.toNat τ' μ' → N.nx τ' μ') : AS K (tFor (iRng1 ta) g tb) τ μ N := by
  refine s_forN (lo := 0) (n := n.toNat) P (fun σ H s c R k => h σ H s c _ fun ds μ1 vs H1 f1 c1 r1 ⟨e, h1, h2, p⟩ => ?_) (fun i τ' μ' hi p => ?_) hd
  · subst e
    cases r1 with
    | cons r rr =>
      cases r
      cases rr
      exact ⟨n, rfl, h1, h2, k μ1 H1 f1 c1 p⟩
  · rw [Int.zero_add]
    exact hs i τ' μ' (by omega) p
end
end Z
namespace Z
open PySem L2
def seqD (μ : M) : D → Option (List D)
  | .tup ds => some ds
  | .rol ds => some ds
  | .ref a => match μ a with
    | some (.lst ds) => some ds
    | _ => none
  | _ => none
section
variable {K : PySem.W.Frag} {τ : T} {μ μ1 μ2 : M} {H H1 H2 : Hp} {σ : L2.St} {Φ Ψ : D → M → Prop} {ta tb tc te : TE} {r r' : R2} {t u : TT} {x y z d e : D} {N : AEnds} {ts us : TS}
theorem seq_of {v : V} {ds : List D} (c : Con K H μ) (r : Rel K H v d) (h : seqD μ d = some ds) : ∃ a xs, v = .ref a ∧ (SqL K H a xs ∨ SqT K H a xs) ∧ Rels K H xs ds := by
  cases r with
  | tup ht hr => cases h; exact ⟨_, _, rfl, .inr ht.sq, hr⟩
  | rol ht hr => cases h; exact ⟨_, _, rfl, .inl ht.sq, hr⟩
  | ref a =>
    unfold seqD at h
    simp only at h
    split at h
    · rename_i ds' e
      cases h
      obtain ⟨xs, h1, h2⟩ := c _ _ e
      exact ⟨_, xs, rfl, .inl (SqL.of h1), h2⟩
    · cases h
  | non => cases h
  | bl => cases h
  | int => cases h
  | str => cases h
  | ty => cases h
theorem ro_i {f : Int → Int → Int} {i j : Int} (q : Φ (.int (f i j)) μ) : RO K (rI0 fun i j => V.int (f i j)) (.int i) (.int j) μ Φ := fun H x y c r1 r2 Q k => by
  cases r1; cases r2
  exact ⟨i, j, rfl, rfl, k _ μ _ H Fr.refl c (.int _) q⟩
theorem ro_b {f : Int → Int → Bool} {i j : Int} (q : Φ (.bl (f i j)) μ) : RO K (rI0 fun i j => V.bl (f i j)) (.int i) (.int j) μ Φ := fun H x y c r1 r2 Q k => by
  cases r1; cases r2
  exact ⟨i, j, rfl, rfl, k _ μ _ H Fr.refl c (.bl _) q⟩
theorem ro_c {C : Int → Int → Prop} {f : Int → Int → Int} {i j : Int} (hc : C i j) (q : Φ (.int (f i j)) μ) : RO K (rI C fun i j => V.int (f i j)) (.int i) (.int j) μ Φ := fun H x y c r1 r2 Q k => by
  cases r1; cases r2
  exact ⟨i, j, rfl, rfl, hc, k _ μ _ H Fr.refl c (.int _) q⟩
theorem ru_i {f : Int → Int} {i : Int} (q : Φ (.int (f i)) μ) : RU K (rU fun i => V.int (f i)) (.int i) μ Φ := fun H x c r1 Q k => by
  cases r1
  exact ⟨i, rfl, k _ μ _ H Fr.refl c (.int _) q⟩
theorem at_len {xs : List V} {ds : List D} {i : Int} {d : D} (r : Rels K H xs ds) (h : atI ds i = some d) : ∃ v, atI xs i = some v ∧ Rel K H v d := by
  unfold atI at h ⊢
  rw [r.length]
  cases e : ixN ds.length i with
  | none => rw [e] at h; cases h
  | some j =>
    rw [e] at h
    exact r.get h
theorem ro_ix {ds : List D} {i : Int} (hs : seqD μ d = some ds) (hi : atI ds i = some e) (q : Φ e μ) : RO K (rIx K) d (.int i) μ Φ := fun H x y c r1 r2 Q k => by
  cases r2
  obtain ⟨a, xs, rfl, hq, hr⟩ := seq_of c r1 hs
  obtain ⟨v, hv, rv⟩ := at_len hr hi
  rcases hq with hq | hq
  · exact .inl ⟨a, xs, i, v, rfl, rfl, hq, hv, k e μ v H Fr.refl c rv q⟩
  · exact .inr (.inl ⟨a, xs, i, v, rfl, rfl, hq, hv, k e μ v H Fr.refl c rv q⟩)
theorem set_lst {a : Addr} {ds : List D} {i : Int} {j : Nat} {Θ : M → Prop} (h : μ a = some (.lst ds)) (hi : ixN ds.length i = some j) (q : Θ (μ.set a (.lst (ds.set j d)))) : ASet K rSetL (.ref a) (.int i) d μ Θ := fun H x y v c r1 r2 r3 Q k => by
  cases r1; cases r2
  obtain ⟨xs, hx, hr⟩ := c a _ h
  exact ⟨a, xs, i, j, rfl, rfl, hx, by rw [hr.length]; exact hi, k _ _ (fr_mut h) (con_mut (m' := .lst (ds.set j d)) c h ⟨_, upd_same, Rels.mono (tx_mut c h) _ _ (Rels.set r3 j hr)⟩) q⟩
mutual
def D.py : D → PyData
  | .bl b => .bool b
  | .int i => .int i
  | .str s => .str s
  | .tup ds => .tuple (D.pys ds)
  | _ => .none
def D.pys : List D → List PyData
  | [] => []
  | d :: ds => D.py d :: D.pys ds
end
mutual
/-- None, truths, ints, texts and tuples of them -/
def D.plain : D → Bool
  | .non => true
  | .bl _ => true
  | .int _ => true
  | .str _ => true
  | .tup ds => D.plains ds
  | _ => false
def D.plains : List D → Bool
  | [] => true
  | d :: ds => D.plain d && D.plains ds
end
mutual
theorem Rel.dp : ∀ (d : D) (v : V), Rel K H v d → D.plain d = true → Dp K H v (D.py d)
  | .non, _, .non, _ => by simp only [D.py]; exact .non
  | .bl _, _, .bl b, _ => by simp only [D.py]; exact .bl b
  | .int _, _, .int b, _ => by simp only [D.py]; exact .int b
  | .str _, _, .str b, _ => by simp only [D.py]; exact .str b
  | .tup ds, _, .tup h r, p => by simp only [D.py]; exact .tup h.sq (Rels.dp ds _ r (by simpa only [D.plain] using p))
  | .ty _, _, _, p => by simp [D.plain] at p
  | .ref _, _, _, p => by simp [D.plain] at p
  | .rol _, _, _, p => by simp [D.plain] at p
theorem Rels.dp : ∀ (ds : List D) (vs : List V), Rels K H vs ds → D.plains ds = true → DpAll K H vs (D.pys ds)
  | [], _, .nil, _ => by simp only [D.pys]; exact .nil
  | d :: ds, _, .cons a b, p => by
    simp only [D.plains, Bool.and_eq_true] at p
    simp only [D.pys]
    exact .cons (Rel.dp d _ a p.1) (Rels.dp ds _ b p.2)
end
/-- plain and not too deep -/
def D.ok (d : D) : Bool := D.plain d && SeqAt.shaped (D.py d)
def D.eqv (d e : D) : Bool := PyData.eqv (D.py d) (D.py e)
theorem ro_eqD (h1 : D.ok d = true) (h2 : D.ok e = true) (q : Φ (.bl (D.eqv d e)) μ) : RO K (rEqD K) d e μ Φ := fun H x y c r1 r2 Q k => by
  unfold D.ok at h1 h2
  rw [Bool.and_eq_true] at h1 h2
  exact ⟨_, _, Rel.dp _ _ r1 h1.1, Rel.dp _ _ r2 h2.1, h1.2, h2.2, k _ μ _ H Fr.refl c (.bl _) q⟩
theorem ro_neD (h1 : D.ok d = true) (h2 : D.ok e = true) (q : Φ (.bl (!D.eqv d e)) μ) : RO K (rNeD K) d e μ Φ := fun H x y c r1 r2 Q k => by
  unfold D.ok at h1 h2
  rw [Bool.and_eq_true] at h1 h2
  exact ⟨_, _, Rel.dp _ _ r1 h1.1, Rel.dp _ _ r2 h2.1, h1.2, h2.2, k _ μ _ H Fr.refl c (.bl _) q⟩
theorem ro_eqI {i j : Int} (q : Φ (.bl (decide (i = j))) μ) : RO K rEq (.int i) (.int j) μ Φ := fun H x y c r1 r2 Q k => by
  cases r1; cases r2
  refine ⟨rfl, ?_⟩
  have e : decide (V.int i = V.int j) = decide (i = j) := by simp
  rw [e]
  exact k _ μ _ H Fr.refl c (.bl _) q
theorem ro_neI {i j : Int} (q : Φ (.bl (!decide (i = j))) μ) : RO K rNe (.int i) (.int j) μ Φ := fun H x y c r1 r2 Q k => by
  cases r1; cases r2
  refine ⟨rfl, ?_⟩
  have e : decide (V.int i = V.int j) = decide (i = j) := by simp
  rw [e]
  exact k _ μ _ H Fr.refl c (.bl _) q
theorem ro_eqB {i j : Bool} (q : Φ (.bl (decide (i = j))) μ) : RO K rEq (.bl i) (.bl j) μ Φ := fun H x y c r1 r2 Q k => by
  cases r1; cases r2
  refine ⟨rfl, ?_⟩
  have e : decide (V.bl i = V.bl j) = decide (i = j) := by simp
  rw [e]
  exact k _ μ _ H Fr.refl c (.bl _) q
theorem ro_neB {i j : Bool} (q : Φ (.bl (!decide (i = j))) μ) : RO K rNe (.bl i) (.bl j) μ Φ := fun H x y c r1 r2 Q k => by
  cases r1; cases r2
  refine ⟨rfl, ?_⟩
  have e : decide (V.bl i = V.bl j) = decide (i = j) := by simp
  rw [e]
  exact k _ μ _ H Fr.refl c (.bl _) q
theorem rc_abs {i : Int} (q : Φ (.int (if i < 0 then -i else i)) μ) : RC K (fun xs H Q => ∃ i, xs = [V.int i] ∧ Q (.int (if i < 0 then -i else i)) H) [.int i] μ Φ := fun H xs c r1 Q k => by
  cases r1 with
  | cons a b => cases a; cases b; exact ⟨i, rfl, k _ μ _ H Fr.refl c (.int _) q⟩
theorem rc_max {i j : Int} (q : Φ (.int (if j > i then j else i)) μ) : RC K (fun xs H Q => ∃ i j, xs = [V.int i, V.int j] ∧ Q (.int (if j > i then j else i)) H) [.int i, .int j] μ Φ := fun H xs c r1 Q k => by
  cases r1 with
  | cons a b => cases a; cases b with
    | cons a b => cases a; cases b; exact ⟨i, j, rfl, k _ μ _ H Fr.refl c (.int _) q⟩
theorem rc_min {i j : Int} (q : Φ (.int (if j < i then j else i)) μ) : RC K (fun xs H Q => ∃ i j, xs = [V.int i, V.int j] ∧ Q (.int (if j < i then j else i)) H) [.int i, .int j] μ Φ := fun H xs c r1 Q k => by
  cases r1 with
  | cons a b => cases a; cases b with
    | cons a b => cases a; cases b; exact ⟨i, j, rfl, k _ μ _ H Fr.refl c (.int _) q⟩
theorem rc_intB {b : Bool} (q : Φ (.int (if b then 1 else 0)) μ) : RC K (fun xs H Q => (∃ i, xs = [V.int i] ∧ Q (.int i) H) ∨ ∃ k, xs = [V.bl k] ∧ Q (.int (if k then 1 else 0)) H) [.bl b] μ Φ := fun H xs c r1 Q k => by
  cases r1 with
  | cons a b => cases a; cases b; exact .inr ⟨_, rfl, k _ μ _ H Fr.refl c (.int _) q⟩
theorem rc_intI {b : Int} (q : Φ (.int b) μ) : RC K (fun xs H Q => (∃ i, xs = [V.int i] ∧ Q (.int i) H) ∨ ∃ k, xs = [V.bl k] ∧ Q (.int (if k then 1 else 0)) H) [.int b] μ Φ := fun H xs c r1 Q k => by
  cases r1 with
  | cons a b => cases a; cases b; exact .inl ⟨_, rfl, k _ μ _ H Fr.refl c (.int _) q⟩
theorem rc_len {ds : List D} (h : seqD μ d = some ds) (q : Φ (.int ds.length) μ) : RC K (fun xs H Q => ∃ x n, xs = [x] ∧ LenV K x H n ∧ Q (.int n) H) [d] μ Φ := fun H xs c r1 Q k => by
  cases r1 with
  | cons a b =>
    cases b
    obtain ⟨p, xs, rfl, hq, hr⟩ := seq_of c a h
    refine ⟨_, ds.length, rfl, ?_, k _ μ _ H Fr.refl c (.int _) q⟩
    rcases hq with hq | hq
    · exact .inl ⟨xs, hq, hr.length.symm⟩
    · exact .inr ⟨xs, hq, hr.length.symm⟩
theorem rc_tuple {ds : List D} (h : seqD μ d = some ds) (q : Φ (.tup ds) μ) : RC K (fun xs H Q => ∃ p ys, xs = [V.ref p] ∧ ((SqL K H p ys ∧ ∀ l, H l = none → Q (.ref l) (upd H l (.tup ys))) ∨ (SqT K H p ys ∧ Q (.ref p) H))) [d] μ Φ := fun H xs c r1 Q k => by
  cases r1 with
  | cons a b =>
    cases b
    cases a with
    | tup ht hr =>
      cases h
      exact ⟨_, _, rfl, .inr ⟨ht.sq, k _ μ _ H Fr.refl c (.tup ht hr) q⟩⟩
    | rol ht hr =>
      cases h
      exact ⟨_, _, rfl, .inl ⟨ht.sq, fun l hl => k _ μ _ _ (fr_new hl) (con_new hl c) (.tup (.inl upd_same) (Rels.mono (tx_new hl) _ _ hr)) q⟩⟩
    | ref p =>
      unfold seqD at h
      simp only at h
      split at h
      · rename_i ds' e
        cases h
        obtain ⟨xs, hx, hr⟩ := c _ _ e
        exact ⟨_, xs, rfl, .inl ⟨SqL.of hx, fun l hl => k _ μ _ _ (fr_new hl) (con_new hl c) (.tup (.inl upd_same) (Rels.mono (tx_new hl) _ _ hr)) q⟩⟩
      · cases h
    | non => cases h
    | bl => cases h
    | int => cases h
    | str => cases h
    | ty => cases h
theorem rels_int : ∀ {xs : List V} {bs : List Int}, Rels K H xs (bs.map D.int) → xs = bs.map V.int
  | [], [], .nil => rfl
  | _ :: _, _ :: _, .cons a b => by cases a; rw [rels_int b]; rfl
theorem m_append {to : TE} {a : Addr} {ds : List D} (h : AE K to τ μ fun o μ1 => o = .ref a ∧ (∃ es, μ1 a = some (.lst es)) ∧ AE K te τ μ1 fun d μ2 => μ2 a = some (.lst ds) ∧ ds.length < sizeLine ∧ Φ .non (μ2.set a (.lst (ds ++ [d])))) :
    AE K (tBM K "list" rAppend to (tCons te tNil)) τ μ Φ := fun σ H s c Q k =>
  h σ H s c _ fun o μ1 v H1 f1 c1 r1 ⟨e, ⟨es, he⟩, p1⟩ => by
    subst e
    cases r1
    obtain ⟨xs, hx, hr⟩ := c1 a _ he
    refine ⟨.inl ⟨rfl, xs, SqL.of hx⟩, p1 σ H1 (s.mono (f1.tx c)) c1 _ fun d μ2 u H2 f2 c2 r2 ⟨h2, hz, q⟩ => ?_⟩
    obtain ⟨ys, hy, hr2⟩ := c2 a _ h2
    exact ⟨a, ys, u, rfl, rfl, hy, by rw [hr2.length]; exact hz, k _ _ _ _ ((f1.trans f2).trans (fr_mut h2)) (con_mut (m' := .lst (ds ++ [d])) c2 h2 ⟨_, upd_same, Rels.mono (tx_mut c2 h2) _ _ (hr2.append (.cons r2 .nil))⟩) .non q⟩
end
end Z
namespace Z
open PySem L2
/-- a promise by what it asks and gives over the store: P args store wish -/
abbrev PT3 := List D → M → (D → M → Prop) → Prop
def spI (K : PySem.W.Frag) (P : PT3) : Sp := fun vs H Q _ => ∃ ds μ Φ, Rels K H vs ds ∧ Z.Con K H μ ∧ P ds μ Φ ∧ ∀ d μ' v H', Fr μ μ' H H' → Z.Con K H' μ' → Rel K H' v d → Φ d μ' → Q v H'
def startD (n : Nat) (ds : List D) : T := ds.map some ++ List.replicate (n - ds.length) none
section
variable {K : PySem.W.Frag} {τ : T} {μ μ1 μ2 : M} {H H1 H2 : Hp} {σ : L2.St} {Φ Ψ : D → M → Prop} {ta tb tc te : TE} {r r' : R2} {t u : TT} {x y z d e : D} {N : AEnds} {ts us : TS} {P : PT3} {E : XK}
theorem slots_start {Ns : List Str} : ∀ {vs : List V} {ds : List D}, Rels K H vs ds → Slots K H (startD Ns.length ds) (L2.start Ns vs) := by
  intro vs ds r
  have hl := r.length
  refine ⟨by unfold startD L2.start; simp only [List.length_append, List.length_map, List.length_replicate]; omega, fun i d e => ?_⟩
  unfold startD at e
  by_cases hi : i < ds.length
  · rw [List.getElem?_append_left (by rw [List.length_map]; exact hi), List.getElem?_map] at e
    cases q : ds[i]? with
    | none => rw [q] at e; cases e
    | some d' =>
      rw [q] at e
      have e2 : d' = d := Option.some.inj (Option.some.inj e)
      subst e2
      obtain ⟨v, h1, h2⟩ := r.get q
      refine ⟨v, ?_, h2⟩
      unfold L2.start
      rw [List.getElem?_append_left (by rw [List.length_map]; omega), List.getElem?_map, h1]
      rfl
  · rw [List.getElem?_append_right (by rw [List.length_map]; omega), List.getElem?_replicate] at e
    split at e <;> cases e
theorem spI_len {vs : List V} {Q : VK} {n : Nat} (h : spI K P vs H Q E) (hn : ∀ ds μ Φ, P ds μ Φ → ds.length = n) : vs.length = n := by
  obtain ⟨ds, μ, Φ, r, _, p, _⟩ := h
  rw [r.length]; exact hn _ _ _ p
/-- a body keeps its promise -/
theorem body_ok {Ns : List Str} {vs : List V} {Q : VK} (h : spI K P vs H Q E) (hb : ∀ ds μ Φ, P ds μ Φ → AS K ts (startD Ns.length ds) μ { nx := fun _ μ' => Φ .non μ', rt := Φ }) :
    ts { nx := fun _ H' => Q .non H', rt := Q } (L2.start Ns vs) H := by
  obtain ⟨ds, μ, Φ, r, c, p, k⟩ := h
  exact hb ds μ Φ p _ H (slots_start r) c _ ⟨fun _ μ' _ H' f c' _ q => k .non μ' .non H' f c' .non q, fun d μ' v H' f c' r' q => k d μ' v H' f c' r' q, fun _ _ _ _ _ _ _ q => q.elim, fun _ _ _ _ _ _ _ q => q.elim, fun _ _ _ _ _ _ _ _ _ _ _ q => q.elim⟩
/-- a call -/
theorem a_call {ta : TA} (h : AA K ta τ μ fun ds μ1 => P ds μ1 Φ) : AE K (tCall (spI K P) [] E ta) τ μ Φ := fun σ H s c Q k =>
  h σ H s c _ fun ds μ1 vs H1 f1 c1 r1 p => by
    show spI K P (vs ++ []) H1 Q E
    rw [List.append_nil]
    exact ⟨ds, μ1, Φ, r1, c1, p, fun d μ' v H' f c' r q => k d μ' v H' (f1.trans f) c' r q⟩
end
end Z
namespace Z
open PySem L2
def sets {α : Type} : List (Option α) → List Nat → List α → List (Option α)
  | l, j :: js, d :: ds => sets (l.set j (some d)) js ds
  | l, _, _ => l
theorem wipe_at (σ : L2.St) (i : Nat) : ∀ vs : List Nat, (wipe σ vs)[i]? = if i ∈ vs then (σ[i]?).map fun _ => none else σ[i]?
  | [] => by simp [wipe]
  | v :: vs => by
    have ih := wipe_at σ i vs
    unfold wipe
    by_cases h : v = i
    · subst h
      rw [if_pos (List.mem_cons_self)]
      by_cases hl : v < (wipe σ vs).length
      · rw [List.getElem?_set_self hl]
        rw [wipe_length] at hl
        rw [List.getElem?_eq_getElem hl]
        rfl
      · rw [List.getElem?_eq_none (by rw [List.length_set]; omega)]
        rw [wipe_length] at hl
        rw [List.getElem?_eq_none (by omega)]
        rfl
    · rw [List.getElem?_set_ne h, ih]
      have e : (i ∈ v :: vs) = (i ∈ vs) := by
        rw [List.mem_cons]
        exact propext ⟨fun q => q.elim (fun z => absurd z.symm h) id, .inr⟩
      simp only [e]
theorem wipe_set {σ : L2.St} {j : Nat} {x : Option V} {vs : List Nat} (h : j ∈ vs) : wipe (σ.set j x) vs = wipe σ vs := by
  apply List.ext_getElem?
  intro i
  rw [wipe_at, wipe_at]
  by_cases hi : i ∈ vs
  · rw [if_pos hi, if_pos hi]
    by_cases e : j = i
    · subst e
      by_cases hl : j < σ.length
      · rw [List.getElem?_set_self hl, List.getElem?_eq_getElem hl]; rfl
      · rw [List.getElem?_eq_none (by rw [List.length_set]; omega), List.getElem?_eq_none (by omega)]
    · rw [List.getElem?_set_ne e]
  · rw [if_neg hi, if_neg hi, List.getElem?_set_ne (fun z => hi (by rw [← z]; exact h))]
theorem wipe_wipe {σ : L2.St} {vs : List Nat} : wipe (wipe σ vs) vs = wipe σ vs := by
  apply List.ext_getElem?
  intro i
  rw [wipe_at]
  by_cases hi : i ∈ vs
  · rw [if_pos hi, wipe_at, if_pos hi]
    cases σ[i]? <;> rfl
  · rw [if_neg hi]
theorem wipe_sets {vs : List Nat} : ∀ {σ : L2.St} {js : List Nat} {xs : List V}, (∀ j ∈ js, j ∈ vs) → wipe (sets σ js xs) vs = wipe σ vs
  | σ, [], xs, _ => by unfold sets; rfl
  | σ, j :: js, [], _ => by unfold sets; rfl
  | σ, j :: js, x :: xs, h => by
    unfold sets
    rw [wipe_sets (fun k hk => h k (List.mem_cons_of_mem _ hk)), wipe_set (h j List.mem_cons_self)]
section
variable {K : PySem.W.Frag} {τ : T} {μ μ1 μ2 : M} {H H1 H2 H' : Hp} {σ : L2.St} {Φ Ψ : D → M → Prop} {ta tb tc te : TE} {r r' : R2} {tt : TT} {x y z d e : D} {N : AEnds} {ts us : TS}
theorem slots_sets : ∀ {js : List Nat} {ds : List D} {vs : List V} {τ : T} {σ : L2.St}, Rels K H vs ds → Slots K H τ σ → Slots K H (sets τ js ds) (sets σ js vs)
  | [], _, _, _, _, _, s => by unfold sets; exact s
  | j :: js, _, _, _, _, .nil, s => by unfold sets; exact s
  | j :: js, _, _, _, _, .cons a b, s => by unfold sets; exact slots_sets b (s.set a j)
/-- the slots of a block: all of vs are stored by the target -/
theorem slots_block {js : List Nat} {ds : List D} {vs : List V} (s : Slots K H τ σ) (r : Rels K H vs ds) (hl : ds.length = js.length) : Slots K H (sets τ js ds) (sets (wipe σ js) js vs) := by
  -- a slot that js stores does not hang on what stood there
  have same : ∀ (js0 : List Nat) (js : List Nat) (vs : List V) (σ σ' : L2.St), σ.length = σ'.length → js.length = vs.length → (∀ i, i ∉ js → i ∉ js0 → σ[i]? = σ'[i]?) → (∀ i, i ∈ js0 → i ∉ js → σ[i]? = σ'[i]?) → sets σ js vs = sets σ' js vs := by
    intro js0 js
    induction js with
    | nil =>
      intro vs σ σ' hL _ h1 h2
      unfold sets
      apply List.ext_getElem?
      intro i
      by_cases hi : i ∈ js0
      · exact h2 i hi (by simp)
      · exact h1 i (by simp) hi
    | cons j js ih =>
      intro vs σ σ' hL hV h1 h2
      cases vs with
      | nil => simp at hV
      | cons v vs =>
        unfold sets
        refine ih vs _ _ (by simp [hL]) (by simpa using hV) (fun i hi hi0 => ?_) (fun i hi0 hi => ?_)
        · by_cases e : j = i
          · subst e
            by_cases hl : j < σ.length
            · rw [List.getElem?_set_self hl, List.getElem?_set_self (by omega)]
            · rw [List.getElem?_eq_none (by simp; omega), List.getElem?_eq_none (by simp; omega)]
          · rw [List.getElem?_set_ne e, List.getElem?_set_ne e]
            exact h1 i (by simp [hi]; exact fun z => e z.symm) hi0
        · by_cases e : j = i
          · subst e
            by_cases hl : j < σ.length
            · rw [List.getElem?_set_self hl, List.getElem?_set_self (by omega)]
            · rw [List.getElem?_eq_none (by simp; omega), List.getElem?_eq_none (by simp; omega)]
          · rw [List.getElem?_set_ne e, List.getElem?_set_ne e]
            exact h2 i hi0 (by simp [hi]; exact fun z => e z.symm)
  have e : sets (wipe σ js) js vs = sets σ js vs := by
    refine same [] js vs _ _ (by rw [wipe_length]) (by rw [r.length, hl]) (fun i hi _ => ?_) (fun i hi _ => by simp at hi)
    rw [wipe_at, if_neg hi]
  rw [e]
  exact slots_sets r s
/-- how a target takes an item apart -/
def TgOk (K : PySem.W.Frag) (g : TG) (js : List Nat) (dec : D → List D → Prop) : Prop :=
  ∀ d ds v σ H, dec d ds → Rel K H v d → ∀ Q : L2.St → Hp → Prop, (∀ vs, Rels K H vs ds → Q (sets σ js vs) H) → g v σ H Q
theorem tg_name {j : Nat} : TgOk K (gName j) [j] fun d ds => ds = [d] := fun d ds v σ H h r Q q => by
  subst h
  exact q [v] (.cons r .nil)
theorem tg_2 {i j : Nat} : TgOk K (gTup K 2 (gCons (gName i) (gCons (gName j) gNil))) [i, j] fun d ds => d = .tup ds ∧ ds.length = 2 := fun d ds v σ H h r Q q => by
  obtain ⟨e, hl⟩ := h
  subst e
  cases r with
  | @tup a xs _ ht hr =>
    have hx := hr.length
    match xs, hx.trans hl with
    | [x, y], _ => exact ⟨a, _, rfl, ht.sq, rfl, x, _, rfl, y, _, rfl, rfl, q _ hr⟩
theorem tg_3 {i j k : Nat} : TgOk K (gTup K 3 (gCons (gName i) (gCons (gName j) (gCons (gName k) gNil)))) [i, j, k] fun d ds => d = .tup ds ∧ ds.length = 3 := fun d ds v σ H h r Q q => by
  obtain ⟨e, hl⟩ := h
  subst e
  cases r with
  | @tup a xs _ ht hr =>
    have hx := hr.length
    match xs, hx.trans hl with
    | [x, y, z], _ => exact ⟨a, _, rfl, ht.sq, rfl, x, _, rfl, y, _, rfl, z, _, rfl, rfl, q _ hr⟩
theorem tg_4 {i j k l : Nat} : TgOk K (gTup K 4 (gCons (gName i) (gCons (gName j) (gCons (gName k) (gCons (gName l) gNil))))) [i, j, k, l] fun d ds => d = .tup ds ∧ ds.length = 4 := fun d ds v σ H h r Q q => by
  obtain ⟨e, hl⟩ := h
  subst e
  cases r with
  | @tup a xs _ ht hr =>
    have hx := hr.length
    match xs, hx.trans hl with
    | [x, y, z, w], _ => exact ⟨a, _, rfl, ht.sq, rfl, x, _, rfl, y, _, rfl, z, _, rfl, w, _, rfl, rfl, q _ hr⟩
/-- what a turn of a comprehension must show -/
def LcTurn (K : PySem.W.Frag) (τ : T) (tt : TT) (te : TE) (js : List Nat) (dec : D → List D → Prop) (x : D) (acc : List D) (μ : M) (P : List D → M → Prop) : Prop :=
  ∃ xs, dec x xs ∧ xs.length = js.length ∧ AT K tt (sets τ js xs) μ fun b μ1 => if b = true then AE K te (sets τ js xs) μ1 fun y μ2 => acc.length < sizeLine ∧ P (acc ++ [y]) μ2 else P acc μ1
/-- the list that is made is at Dl, outside of the store -/
structure LcAt (K : PySem.W.Frag) (Dl : Addr) (μ0 : M) (H0 : Hp) (acc : List D) (μ' : M) (H' : Hp) : Prop where
  fr : Fr μ0 μ' H0 H'
  con : Z.Con K H' μ'
  no : μ' Dl = none
  at_ : ∃ vs, H' Dl = some (.lst vs) ∧ Rels K H' vs acc
theorem upd_out {Dl : Addr} {vs : List V} {o : HO} (c : Z.Con K H μ) (no : μ Dl = none) (h : H Dl = some (.lst vs)) (ho : ∀ xs, o ≠ .tup xs) : Tx H (upd H Dl o) ∧ Z.Con K (upd H Dl o) μ := by
  have t : Tx H (upd H Dl o) := ⟨fun a xs e => by rw [upd_ne (fun z => by subst z; rw [h] at e; cases e)]; exact e, fun a ob xs e => by rw [upd_ne (fun z => by subst z; rw [h] at e; cases e)]; exact e,
    fun a q e => by rw [upd_ne (fun z => by subst z; rw [h] at e; unfold LamX.CodeO at e; cases e)]; exact e⟩
  exact ⟨t, fun a m e => (c a m e).mono t (upd_ne (fun z => by subst z; rw [no] at e; cases e))⟩
theorem lc_step {g : TG} {js : List Nat} {dec : D → List D → Prop} {Dl : Addr} {μ0 μ' : M} {H0 : Hp} {acc : List D} {P : List D → M → Prop} {Nx : Hp → Prop} {v : V} (hD : H0 Dl = none) (hg : TgOk K g js dec) (s : Slots K H0 τ σ) (c0 : Z.Con K H0 μ0) (L : LcAt K Dl μ0 H0 acc μ' H') (rx : Rel K H' v x) (ht : LcTurn K τ tt te js dec x acc μ' P)
    (hn : ∀ acc2 μ2 H2, LcAt K Dl μ0 H0 acc2 μ2 H2 → P acc2 μ2 → Nx H2) :
    g v (wipe σ js) H' fun σ2 H2 => wipe σ2 js = wipe σ js ∧ tt σ2 H2 fun b H3 => if b = true then te σ2 H3 fun y H4 => ∃ acc, H4 Dl = some (.lst acc) ∧ acc.length < sizeLine ∧ Nx (upd H4 Dl (.lst (acc ++ [y]))) else Nx H3 := by
  obtain ⟨xs, hd, hl, ht⟩ := ht
  obtain ⟨vs0, hv0, hr0⟩ := L.at_
  refine hg x xs v _ H' hd rx _ fun vs hvs => ⟨by rw [wipe_sets (fun _ h => h), wipe_wipe], ?_⟩
  have s' : Slots K H' (sets τ js xs) (sets (wipe σ js) js vs) := slots_block (s.mono (L.fr.tx c0)) hvs hl
  refine ht _ H' s' L.con _ fun b μ1 H1 f1 c1 p => ?_
  have n1 : μ1 Dl = none := (f1 Dl _ L.no hv0).2
  have h1 : H1 Dl = some (.lst vs0) := (f1 Dl _ L.no hv0).1
  cases b with
  | false => exact hn acc μ1 H1 ⟨L.fr.trans f1, c1, n1, vs0, h1, Rels.mono (f1.tx L.con) _ _ hr0⟩ p
  | true =>
    refine (show AE K te _ μ1 _ from p) _ H1 (s'.mono (f1.tx L.con)) c1 _ fun y μ2 w H2 f2 c2 r2 ⟨hz, p2⟩ => ?_
    have n2 : μ2 Dl = none := (f2 Dl _ n1 h1).2
    have h2 : H2 Dl = some (.lst vs0) := (f2 Dl _ n1 h1).1
    have hr2 : Rels K H2 vs0 acc := Rels.mono ((f1.trans f2).tx L.con) _ _ hr0
    obtain ⟨t3, c3⟩ := upd_out (o := .lst (vs0 ++ [w])) c2 n2 h2 (fun _ z => by cases z)
    refine ⟨vs0, h2, by rw [hr0.length]; exact hz, hn _ μ2 _ ⟨fun a o n e => ?_, c3, n2, _, upd_same, Rels.mono t3 _ _ (hr2.append (.cons r2 .nil))⟩ p2⟩
    have f := (L.fr.trans f1).trans f2
    obtain ⟨e2, m2⟩ := f a o n e
    exact ⟨by rw [upd_ne (ne_of_none e hD)]; exact e2, m2⟩
theorem lc_start {Dl : Addr} (c : Z.Con K H μ) (hD : H Dl = none) : LcAt K Dl μ H [] μ (upd H Dl (.lst [])) :=
  ⟨fr_new hD, con_new hD c, c.free hD, [], upd_same, .nil⟩
/-- pure elements: a filter and a map -/
theorem at_yes {Θ : Bool → M → Prop} (h : Θ true μ) : AT K tYes τ μ Θ := fun σ H s c Q k => k true μ H Fr.refl c h
end
end Z
namespace Z
open PySem L2
section
variable {K : PySem.W.Frag} {τ : T} {μ μ1 μ2 : M} {H H1 H2 H' : Hp} {σ : L2.St} {Φ Ψ : D → M → Prop} {ta tb tc te : TE} {r r' : R2} {tt : TT} {x y z d e : D} {N : AEnds} {ts us : TS}
theorem s_par3 {i j l : Nat} {ta : TA} (h : AA K ta τ μ fun ds μ' => ∃ d e w, ds = [d, e, w] ∧ N.nx (((τ.set i (some d)).set j (some e)).set l (some w)) μ') : AS K (tPar3 i j l ta) τ μ N := fun σ H s c E k =>
  h σ H s c _ fun ds μ' vs H' f c' r ⟨d, e, w, q, p⟩ => by
    subst q
    cases r with
    | cons r1 r2 =>
      cases r2 with
      | cons r2 r3 =>
        cases r3 with
        | cons r3 r4 =>
          cases r4
          exact ⟨_, _, _, rfl, k.nx _ μ' _ H' f c' ((((s.mono (f.tx c)).set r1 i).set r2 j).set r3 l) p⟩
def tyn (μ : M) : D → Option String
  | .non => some "NoneType"
  | .bl _ => some "bool"
  | .int _ => some "int"
  | .str _ => some "str"
  | .tup _ => some "tuple"
  | .rol _ => some "list"
  | .ref a => match μ a with
    | some (.lst _) => some "list"
    | some (.dK _) => some "dict"
    | some (.dT _) => some "dict"
    | _ => none
  | .ty _ => none
theorem tyx_of {v : V} {n : String} (c : Z.Con K H μ) (r : Rel K H v d) (h : tyn μ d = some n) : TyX K H v (.type n) := by
  cases r with
  | non => cases h; exact .base .non
  | bl => cases h; exact .base (.bl _)
  | int => cases h; exact .base (.int _)
  | str => cases h; exact .base (.str _)
  | ty => cases h
  | tup ht hr =>
    cases h
    cases ht with
    | inl ht => exact .base (.tup ht)
  | rol ht hr =>
    cases h
    rcases ht with ⟨o, ht⟩ | ⟨o, its, m, h1, h2, _⟩
    · exact .base (.frz ht)
    · exact .kList h1 h2
  | ref a =>
    unfold tyn at h
    simp only at h
    split at h
    · rename_i e; cases h; obtain ⟨xs, hx, _⟩ := c _ _ e; exact .base (.lst hx)
    · rename_i e; cases h; obtain ⟨xs, hx, _⟩ := c _ _ e; exact .base (.dK hx)
    · rename_i e; cases h; obtain ⟨xs, hx, _⟩ := c _ _ e; exact .base (.dT hx)
    · cases h
theorem rc_isi {n m : String} {b : Bool} (h : tyn μ d = some n) (hk : kitB n m = some b) (q : Φ (.bl b) μ) : RC K (rIsi K) [d, .ty m] μ Φ := fun H xs c r1 Q k => by
  cases r1 with
  | cons a r2 =>
    cases r2 with
    | cons a2 r3 =>
      cases a2; cases r3
      exact ⟨_, _, .type n, .type m, b, rfl, .ty m, tyx_of c a h, kit_ty hk, k _ μ _ H Fr.refl c (.bl _) q⟩
theorem a_chain (h : AE K ta τ μ fun d μ1 => AE K tb τ μ1 fun e μ2 => RO K r d e μ2 fun z μ3 => ∃ b, z = .bl b ∧ if b = true then AE K tc τ μ3 fun w μ4 => RO K r' e w μ4 Φ else Φ (.bl false) μ3) : AE K (tChain r r' ta tb tc) τ μ Φ := fun σ H s c Q k =>
  h σ H s c _ fun d μ1 v H1 f1 c1 r1 p1 => p1 σ H1 (s.mono (f1.tx c)) c1 _ fun e μ2 u H2 f2 c2 r2 p2 =>
    p2 H2 v u c2 (Rel.mono (f2.tx c1) _ _ r1) r2 _ fun z μ3 w H3 f3 c3 rz ⟨b, ez, p3⟩ => by
      subst ez
      cases rz
      refine ⟨b, rfl, ?_⟩
      cases b with
      | false => exact k _ μ3 _ H3 ((f1.trans f2).trans f3) c3 (.bl false) (show Φ (.bl false) μ3 from p3)
      | true =>
        exact (show AE K tc τ μ3 _ from p3) σ H3 (s.mono (((f1.trans f2).trans f3).tx c)) c3 _ fun w μ4 w' H4 f4 c4 r4 p4 =>
          p4 H4 u w' c4 (Rel.mono ((f3.trans f4).tx c2) _ _ r2) r4 Q fun z μ5 o H5 f5 c5 rz pz => k z μ5 o H5 ((((f1.trans f2).trans f3).trans f4).trans f5) c5 rz pz
def rInS (K : PySem.W.Frag) (neg : Bool) : R2 := fun x y H Q => ∃ d ds, Dp K H x d ∧ (Dp K H y (.list ds) ∨ Dp K H y (.tuple ds)) ∧ SeqAt.shaped d = true ∧ SeqAt.shaped (.list ds) = true ∧ Q (.bl (if neg then !ds.any fun z => PyData.eqv z d else ds.any fun z => PyData.eqv z d)) H
theorem seq_dp {v : V} {ds : List D} (c : Z.Con K H μ) (r : Rel K H v d) (h : seqD μ d = some ds) (hp : D.plains ds = true) : Dp K H v (.list (D.pys ds)) ∨ Dp K H v (.tuple (D.pys ds)) := by
  cases r with
  | tup ht hr => cases h; exact .inr (.tup ht.sq (Rels.dp _ _ hr hp))
  | rol ht hr => cases h; exact .inl (.lst ht.sq (Rels.dp _ _ hr hp))
  | ref a =>
    unfold seqD at h
    simp only at h
    split at h
    · rename_i ds' e
      cases h
      obtain ⟨xs, h1, h2⟩ := c _ _ e
      exact .inl (.lst (SqL.of h1) (Rels.dp _ _ h2 hp))
    · cases h
  | non => cases h
  | bl => cases h
  | int => cases h
  | str => cases h
  | ty => cases h
def inD (d : D) (ds : List D) : Bool := ds.any fun z => D.eqv z d
theorem inD_pys (d : D) : ∀ ds : List D, (D.pys ds).any (fun z => PyData.eqv z (D.py d)) = inD d ds
  | [] => by simp [D.pys, inD]
  | x :: ds => by
    have ih := inD_pys d ds
    unfold inD at ih ⊢
    simp only [D.pys, List.any_cons, ih]
    rfl
theorem ro_inS {neg : Bool} {ds : List D} (hs : seqD μ e = some ds) (h1 : D.ok d = true) (h2 : D.ok (.tup ds) = true) (q : Φ (.bl (if neg then !inD d ds else inD d ds)) μ) : RO K (rInS K neg) d e μ Φ := fun H x y c r1 r2 Q k => by
  unfold D.ok at h1 h2
  rw [Bool.and_eq_true] at h1 h2
  have p2 : D.plains ds = true := by simpa only [D.plain] using h2.1
  refine ⟨_, D.pys ds, Rel.dp _ _ r1 h1.1, seq_dp c r2 hs p2, h1.2, ?_, ?_⟩
  · have h3 := h2.2
    simp only [D.py] at h3
    exact h3
  · rw [inD_pys]
    exact k _ μ _ H Fr.refl c (.bl _) q
end
/-- a def of the text with its promise -/
structure Def (P : Program) (w : World) (K : PySem.W.Frag) (mg : Str → Option Value) (base : Heap) (x : Str) (ps : List Str) (k : Nat) (sp : Sp) : Prop where
  ex : ∃ f fd, FnOk P w K mg base CX0 k f fd ps sp ∧ mg x = some (.ref f) ∧ PySem.W.keepIn K (.ref f) = true ∧ Binds K fd ps []
section
variable {X : Cx} {k : Nat} {ps : List Str} {sp : Sp} {x : Str} {p pos : Pos} {e : Expr} {es : List Expr} {t : TA}
theorem pe_def (G : Def X.prog X.w X.K X.mg X.base x ps k sp) (hr : Room k X.A) (hg : Gl X x)
    (ha : PA X (e :: es) t) (hdb : (x == ("__debug__" : Str)) = false := by decide) (he : starEach (e :: es) X.env = (false, eval e X.env) :: starEach es X.env := by rfl) (hpl : (backTo pos (starEach es X.env)).any (·.1) = false := by rfl) :
    PE X (.Call (.Name x p) (e :: es) [] pos) (tCall sp [] E0 t) := by
  obtain ⟨f, fd, F, hm, hk, hb⟩ := G.ex
  exact pe_call F hr hg hm hk hb .nil pass0 ha hdb he hpl
end
def CDivX (_ j : Int) : Prop := j ≠ 0 ∧ j.natAbs.log2 < 9000
theorem op_fdivX {X : Cx} : OpR X (binaryOp .FloorDiv) (rI CDivX fun i j => .int (i.fdiv j)) := opI fun i j _ _ _ _ _ hc q => PyProof.Rows.floordiv_int hc.1 q (.inl (PyProof.noPylong_of_log2 hc.2))
end Z
namespace Z
open PySem L2
theorem seq_ref {μ : M} {a : Addr} {ds : List D} (h : μ a = some (.lst ds)) : seqD μ (.ref a) = some ds := by
  show (match μ a with | some (.lst ds) => some ds | _ => none) = some ds
  rw [h]
def Sz (n : Nat) (x : Int) : Prop := x.natAbs < 2 ^ n
instance {n : Nat} {x : Int} : Decidable (Sz n x) := inferInstanceAs (Decidable (x.natAbs < 2 ^ n))
theorem sz_mono {a b : Nat} {x : Int} (h : Sz a x) (l : a ≤ b) : Sz b x := Nat.lt_of_lt_of_le h (Nat.pow_le_pow_right (by decide) l)
theorem sz_add {a b : Nat} {x y : Int} (h : Sz a x) (k : Sz b y) : Sz (max a b + 1) (x + y) := by
  have h1 : x.natAbs < 2 ^ (max a b) := Nat.lt_of_lt_of_le h (Nat.pow_le_pow_right (by decide) (Nat.le_max_left _ _))
  have h2 : y.natAbs < 2 ^ (max a b) := Nat.lt_of_lt_of_le k (Nat.pow_le_pow_right (by decide) (Nat.le_max_right _ _))
  have h3 := Int.natAbs_add_le x y
  unfold Sz
  rw [Nat.pow_succ]
  omega
theorem sz_neg {a : Nat} {x : Int} (h : Sz a x) : Sz a (-x) := by
  unfold Sz
  rw [Int.natAbs_neg]
  exact h
theorem sz_sub {a b : Nat} {x y : Int} (h : Sz a x) (k : Sz b y) : Sz (max a b + 1) (x - y) := by
  rw [Int.sub_eq_add_neg]
  exact sz_add h (sz_neg k)
theorem sz_mul {a b : Nat} {x y : Int} (h : Sz a x) (k : Sz b y) : Sz (a + b) (x * y) := wide_lt h k
theorem sz_mod {a : Nat} {x y : Int} (hy : 0 < y) (k : Sz a y) : Sz a (x % y) := by
  have h1 := Int.emod_nonneg x (by omega : y ≠ 0)
  have h2 := Int.emod_lt_of_pos x hy
  have k' : y.natAbs < 2 ^ a := k
  unfold Sz
  omega
theorem sz_lt {a : Nat} {x y : Int} (h0 : 0 ≤ x) (h1 : x < y) (k : Sz a y) : Sz a x := by
  have k' : y.natAbs < 2 ^ a := k
  unfold Sz
  omega
theorem sz_b {b : Bool} : Sz 1 (if b then 1 else 0) := by cases b <;> decide
theorem sz_128 {x : Int} (h : decide (x.natAbs < 2 ^ 128) = true) : Sz 128 x := of_decide_eq_true h
theorem sz_2 {x : Int} (h : decide (x.natAbs < 2 ^ 2) = true) : Sz 2 x := of_decide_eq_true h
theorem sz_8 {x : Int} (h : decide (x.natAbs < 2 ^ 8) = true) : Sz 8 x := of_decide_eq_true h
theorem sz_32 {x : Int} (h : decide (x.natAbs < 2 ^ 32) = true) : Sz 32 x := of_decide_eq_true h
theorem hu65_of {k : Nat} {A : Around} (hr : Room k A) : A.units + 65 < cLine := by have := hr.un; omega
theorem sz_1 {x : Int} (h : x = 1 ∨ x = 0 ∨ x = -1) : Sz 1 x := by
  rcases h with h | h | h <;> subst h <;> decide
theorem mulw_of {a b : Nat} {x y : Int} (h : Sz a x) (k : Sz b y) (l : (a + 1) + (b + 1) ≤ 1000000) : CMulW x y :=
  wide_mul (a := a + 1) (b := b + 1) (sz_mono h (Nat.le_succ a)) (sz_mono k (Nat.le_succ b)) (Nat.succ_pos _) (Nat.succ_pos _) l
theorem divw_of {b : Nat} {x y : Int} (h : 0 < y) (k : Sz b y) (l : b + 1 ≤ 9000) : CDivW x y := wide_div (b := b + 1) h (sz_mono k (Nat.le_succ b)) (Nat.succ_pos _) l
abbrev pt (x y : Int) : D := .tup [.int x, .int y]
def sgn (n : Int) : Int := if 0 < n then 1 else if n < 0 then -1 else 0
section
variable {X : Cx} {K : PySem.W.Frag}
theorem ix_seqK (h : X.K = K) : IxR X (rIx K) := by subst h; exact ix_seq
theorem op_neDK (h : X.K = K) (hu : X.A.units + 64 < cLine) : OpR X (compareOp .NotEq) (rNeD K) := by subst h; exact op_neD hu
theorem call_lenK (h : X.K = K) : CallR X (.builtin "len") (fun xs H Q => ∃ x n, xs = [x] ∧ LenV K x H n ∧ Q (.int n) H) := by subst h; exact call_len
theorem call_tupleK (h : X.K = K) : CallR X (.type "tuple") (fun xs H Q => ∃ p ys, xs = [V.ref p] ∧ ((SqL K H p ys ∧ ∀ l, H l = none → Q (.ref l) (upd H l (.tup ys))) ∨ (SqT K H p ys ∧ Q (.ref p) H))) := by subst h; exact call_tuple_of
theorem pi_listK {tg l : Expr} {tl : TE} (h : X.K = K) (hl : PE X l tl) : PI X tg l (iList K tl) := by subst h; exact pi_list hl
theorem pi_tupK {tg l : Expr} {tl : TE} (h : X.K = K) (hl : PE X l tl) : PI X tg l (iTup K tl) := by subst h; exact pi_tup hl
end
end Z
namespace Z
open PySem L2
def P_law : PT3 := fun ds μ Φ => ∃ ns : List Int, ds = [.rol (ns.map D.int)] ∧ ns.length ≤ 63 ∧ ∀ μ', Φ (.bl true) μ'
theorem rels_map {K : PySem.W.Frag} {H : Hp} : ∀ ns : List Int, Rels K H (ns.map V.int) (ns.map D.int)
  | [] => .nil
  | n :: ns => .cons (.int n) (rels_map ns)
theorem law_start {K : PySem.W.Frag} {H : Hp} {a : Addr} {ns : List Int} (hl : ns.length ≤ 63) (hO : Only H) (hS : SqL K H a (ns.map V.int)) : spI K P_law [.ref a] H (fun v _ => v = .bl true) fun _ _ _ => False := by
  have hr : RolAt K H a (ns.map V.int) := by
    rcases hS with (h | ⟨o, h⟩) | h
    · rcases hO a with e | ⟨o, xs, e⟩
      · rw [e] at h; cases h
      · rw [e] at h; cases h
    · exact .inl ⟨o, h⟩
    · exact .inr h
  refine ⟨[.rol (ns.map D.int)], fun _ => none, fun d _ => d = .bl true, .cons (.rol hr (rels_map ns)) .nil, fun a m e => (by cases e), ⟨ns, rfl, hl, fun _ => rfl⟩, fun d μ' v H' f c r e => ?_⟩
  subst e
  cases r
  rfl
theorem len_law (ds : List D) (μ : M) (Φ : D → M → Prop) (h : P_law ds μ Φ) : ds.length = 1 := by
  obtain ⟨ns, rfl, _⟩ := h
  rfl
/-- a bag: what its second number is -/
def BgOk (m : Int) : Prop := 0 ≤ m ∧ m < 2147483648
def P_l_bag : PT3 := fun ds μ Φ => ∃ (ns : List Int) (k : Int), ds = [.rol (ns.map D.int), .int k] ∧ 0 ≤ k ∧ k ≤ 1000 ∧ ∀ p c m, μ p = none → BgOk m → Φ (.ref p) (μ.set p (.lst [.int c, .int m]))
theorem len_l_bag (ds : List D) (μ : M) (Φ : D → M → Prop) (h : P_l_bag ds μ Φ) : ds.length = 2 := by
  obtain ⟨_, _, rfl, _⟩ := h
  rfl
def P_l_take : PT3 := fun ds μ Φ => ∃ (b : Addr) (n c m : Int), ds = [.ref b, .int n] ∧ μ b = some (.lst [.int c, .int m]) ∧ BgOk m ∧ 0 < n ∧ Sz 4000 n ∧ ∀ d c' m', 0 ≤ d → d < n → Sz 4000 d → BgOk m' → Φ (.int d) (μ.set b (.lst [.int c', .int m']))
theorem len_l_take (ds : List D) (μ : M) (Φ : D → M → Prop) (h : P_l_take ds μ Φ) : ds.length = 2 := by
  obtain ⟨_, _, _, _, rfl, _⟩ := h
  rfl
theorem cast_int {Φ : D → M → Prop} {μ : M} {a b : Int} (e : a = b) (h : Φ (.int b) μ) : Φ (.int a) μ := by rw [e]; exact h
theorem cast_bl {Φ : D → M → Prop} {μ : M} {a b : Bool} (e : a = b) (h : Φ (.bl b) μ) : Φ (.bl a) μ := by rw [e]; exact h
theorem iteNT {A B : Prop} (h : B) : if (!true) = true then A else B := h
theorem iteNF {A B : Prop} (h : A) : if (!false) = true then A else B := h
/-- an if whose test is a comparison -/
theorem ite_d {p : Prop} [Decidable p] {A B : Prop} (h1 : p → A) (h2 : ¬ p → B) : if decide p = true then A else B := by
  by_cases h : p
  · rw [if_pos (decide_eq_true h)]; exact h1 h
  · rw [if_neg (by simpa using h)]; exact h2 h
theorem ite_nd {p : Prop} [Decidable p] {A B : Prop} (h1 : ¬ p → A) (h2 : p → B) : if (!decide p) = true then A else B := by
  by_cases h : p
  · rw [if_neg (by simpa using h)]; exact h2 h
  · rw [if_pos (by simpa using h)]; exact h1 h
theorem ite_b {b : Bool} {A B : Prop} (h1 : b = true → A) (h2 : b = false → B) : if b = true then A else B := by
  cases b with
  | true => exact h1 rfl
  | false => exact h2 rfl
theorem map_get {ns : List Int} {k : Int} (h0 : 0 ≤ k) (h1 : k < ns.length) : ∃ z, atI (ns.map D.int) k = some (.int z) := by
  obtain ⟨j, rfl⟩ := Int.eq_ofNat_of_zero_le h0
  have hj : j < ns.length := by omega
  exact ⟨ns[j], atI_nat (by rw [List.getElem?_map, List.getElem?_eq_getElem hj]; rfl)⟩
/-- an if, then a word of what holds behind it -/
theorem if_cut {K : PySem.W.Frag} {τ : T} {μ : M} {N : AEnds} {t1 t2 : TS} {b : Bool} (M0 : T → M → Prop) (h1 : b = true → AS K t1 τ μ { N with nx := M0 }) (h2 : b = false → AS K t2 τ μ { N with nx := M0 }) (k : ∀ τ' μ', M0 τ' μ' → N.nx τ' μ') :
    if b = true then AS K t1 τ μ N else AS K t2 τ μ N := by
  cases b with
  | true => rw [if_pos rfl]; exact (h1 rfl).imp k (fun _ _ h => h) (fun _ _ h => h) fun _ _ h => h
  | false => rw [if_neg Bool.false_ne_true]; exact (h2 rfl).imp k (fun _ _ h => h) (fun _ _ h => h) fun _ _ h => h
section
variable {K : PySem.W.Frag} {τ : T} {μ μ1 μ2 : M} {Φ : D → M → Prop} {tl te : TE} {tt : TT}
theorem filt_step {f : D → D} {p : D → Bool} {ds : List D} {i : Nat} {x : D} (h : ds[i]? = some x) : (ds.take (i + 1)).filter p = (ds.take i).filter p ++ (if p x = true then [x] else []) := by
  rw [List.take_add_one, h, List.filter_append]
  congr 1
  simp only [Option.toList_some, List.filter_cons, List.filter_nil]
end
end Z
namespace Z
open PySem L2
/-- J yields xs in turn while G stands; what is at out is not in the store meanwhile -/
structure WalkD (K : PySem.W.Frag) (J : It) (xs : List D) (out : Addr → Prop) (G : Hp → Prop) : Prop where
  keep : ∀ H H' μ μ', Z.Con K H μ → (∀ a, out a → μ a = none) → G H → Fr μ μ' H H' → G H'
  oo : ∀ H a, G H → out a → ∃ o, H a = some o
  go : ∀ i H, i < xs.length → G H → J.go i H
  stop : ∀ i H, xs.length ≤ i → G H → J.stop i H
  yld : ∀ i H v H', i < xs.length → G H → J.yld i H v H' → ∃ x, xs[i]? = some x ∧ Rel K H' v x ∧ (H' = H ∨ ∃ T vs, H T = none ∧ H' = upd H T (.tup vs))
/-- how the store is put together again -/
structure Back (K : PySem.W.Frag) (μ μw : M) (H H1 : Hp) (back : M → M) : Prop where
  fr : ∀ μ' H', Fr μw μ' H1 H' → Fr μ (back μ') H H'
  con : ∀ μ' H', Fr μw μ' H1 H' → Z.Con K H' μ' → Z.Con K H' (back μ')
  nw : ∀ μ' p, H1 p = none → μ' p = none → back μ' p = none
  old : ∀ b o, μ b = none → H b = some o → H1 b = some o
/-- a source: what follows is told of the items, the store while it is walked, the way back -/
def AI (K : PySem.W.Frag) (wi : TI) (τ : T) (μ : M) (Ψ : List D → M → (M → M) → Prop) : Prop :=
  ∀ σ H, Slots K H τ σ → Z.Con K H μ → ∀ R : It → Hp → Prop,
    (∀ J xs out G H1 μw back, Tx H H1 → Z.Con K H1 μw → WalkD K J xs out G → G H1 → (∀ a, out a → μw a = none) → Back K μ μw H H1 back → Ψ xs μw back → R J H1) → wi σ H R
section
variable {K : PySem.W.Frag} {τ : T} {μ μ1 μ2 : M} {H H1 H2 H' : Hp} {σ : L2.St} {Φ : D → M → Prop} {ta tl te : TE} {tt : TT} {N : AEnds} {ts tb : TS} {g : TG} {wi : TI}
def turnB (N : AEnds) (back : M → M) (P : T → M → Prop) : AEnds := { nx := P, ct := P, rt := fun d μ' => N.rt d (back μ'), bk := fun τ' μ' => N.nx τ' (back μ'), W := N.W, cn := N.cn, xs := fun x dx τ' μ' => N.xs x dx τ' (back μ') }
/-- behind one yield -/
theorem yld_ok {T0 : Addr} {vs : List V} (c : Z.Con K H μ) (h : H T0 = none) : Fr μ μ H (upd H T0 (.tup vs)) ∧ Z.Con K (upd H T0 (.tup vs)) μ := ⟨fr_new h, con_new h c⟩
theorem s_for (h : AI K wi τ μ fun xs μw back => ∃ P : Nat → T → M → Prop, P 0 τ μw ∧ (∀ (i : Nat) x τ' μ', xs[i]? = some x → P i τ' μ' → AG K g x τ' μ' fun τ2 μ2 => AS K tb τ2 μ2 (turnB N back (P (i + 1)))) ∧ ∀ τ' μ', P xs.length τ' μ' → N.nx τ' (back μ')) :
    AS K (tFor wi g tb) τ μ N := fun σ H s c E k => by
  refine h σ H s c _ fun J xs out G H1 μw back tx c1 W g1 o1 B ⟨P, p0, hs, hd⟩ => ?_
  refine ⟨fun i m σ' H' => m = xs.length - i ∧ i ≤ xs.length ∧ ∃ τ' μ', Fr μw μ' H1 H' ∧ Z.Con K H' μ' ∧ Slots K H' τ' σ' ∧ P i τ' μ', ⟨xs.length, by omega, Nat.zero_le _, τ, μw, Fr.refl, c1, s.mono tx, p0⟩, ?_⟩
  rintro i m σ' H' ⟨rfl, hi, τ', μ', f, c', s', p⟩
  have gH : G H' := W.keep _ _ _ _ c1 o1 g1 f
  by_cases hlt : i < xs.length
  · refine .inr ⟨W.go i H' hlt gH, fun σ2 H2 => ∃ τ2 μ2, Fr μw μ2 H1 H2 ∧ Z.Con K H2 μ2 ∧ Slots K H2 τ2 σ2 ∧ P (i + 1) τ2 μ2, fun σ2 H2 ⟨τ2, μ2, f2, c2, s2, p2⟩ => ⟨xs.length - (i + 1), by omega, rfl, hlt, τ2, μ2, f2, c2, s2, p2⟩, fun v H2 y => ?_⟩
    obtain ⟨x, hx, rx, hH⟩ := W.yld i H' v H2 hlt gH y
    have fy : Fr μ' μ' H' H2 ∧ Z.Con K H2 μ' := by
      rcases hH with e | ⟨T0, vs, hT, e⟩
      · rw [e]; exact ⟨Fr.refl, c'⟩
      · rw [e]; exact yld_ok c' hT
    refine hs i x τ' μ' hx p σ' H2 v (s'.mono (fy.1.tx c')) fy.2 rx _ fun τ3 μ3 σ3 H3 f3 c3 s3 q => ?_
    have fa := (f.trans fy.1).trans f3
    refine q σ3 H3 s3 c3 _ ⟨fun τ4 μ4 σ4 H4 f4 c4 s4 p4 => ⟨τ4, μ4, fa.trans f4, c4, s4, p4⟩, fun d4 μ4 v4 H4 f4 c4 r4 p4 => ?_, fun τ4 μ4 σ4 H4 f4 c4 s4 p4 => ?_, fun τ4 μ4 σ4 H4 f4 c4 s4 p4 => ⟨τ4, μ4, fa.trans f4, c4, s4, p4⟩, fun x1 x2 x3 x4 x5 x6 x7 x8 f' c' s' p' => k.wx x1 x2 x3 _ x5 x6 x7 x8 (B.fr _ _ (fa.trans f')) (B.con _ _ (fa.trans f') c') s' p'⟩
    · exact k.rt d4 (back μ4) v4 H4 (B.fr _ _ (fa.trans f4)) (B.con _ _ (fa.trans f4) c4) r4 p4
    · exact k.nx τ4 (back μ4) σ4 H4 (B.fr _ _ (fa.trans f4)) (B.con _ _ (fa.trans f4) c4) s4 p4
  · have e : i = xs.length := by omega
    subst e
    exact .inl ⟨W.stop _ H' (Nat.le_refl _) gH, k.nx τ' (back μ') σ' H' (B.fr _ _ f) (B.con _ _ f c') s' (hd τ' μ' p)⟩
theorem a_lc {js : List Nat} {dec : D → List D → Prop} (hg : TgOk K g js dec)
    (h : AI K wi τ μ fun xs μw back => ∃ P : Nat → List D → M → Prop, P 0 [] μw ∧ (∀ (i : Nat) x acc μ', xs[i]? = some x → P i acc μ' → LcTurn K τ tt te js dec x acc μ' (P (i + 1))) ∧ ∀ acc μ', P xs.length acc μ' → ∀ p, back μ' p = none → Φ (.ref p) ((back μ').set p (.lst acc))) :
    AE K (tLc wi g tt te js) τ μ Φ := fun σ H s c Q k => by
  refine h σ H s c _ fun J xs out G H1 μw back tx c1 W g1 o1 B ⟨P, p0, hs, hd⟩ Dl hD => ?_
  have s1 := s.mono tx
  refine ⟨fun i m H' => m = xs.length - i ∧ i ≤ xs.length ∧ ∃ acc μ', LcAt K Dl μw H1 acc μ' H' ∧ P i acc μ', ⟨xs.length, by omega, Nat.zero_le _, [], μw, lc_start c1 hD, p0⟩, ?_⟩
  rintro i m H' ⟨rfl, hi, acc, μ', L, p⟩
  have gH : G H' := W.keep _ _ _ _ c1 o1 g1 L.fr
  by_cases hlt : i < xs.length
  · refine .inr ⟨W.go i H' hlt gH, fun H2 => ∃ acc2 μ2, LcAt K Dl μw H1 acc2 μ2 H2 ∧ P (i + 1) acc2 μ2, fun H2 ⟨acc2, μ2, L2, p2⟩ => ⟨xs.length - (i + 1), by omega, rfl, hlt, acc2, μ2, L2, p2⟩, fun v H2 y => ?_⟩
    obtain ⟨x, hx, rx, hH⟩ := W.yld i H' v H2 hlt gH y
    have L2 : LcAt K Dl μw H1 acc μ' H2 := by
      rcases hH with e | ⟨T0, vs, hT, e⟩
      · rw [e]; exact L
      · obtain ⟨f2, c2⟩ := yld_ok (vs := vs) L.con hT
        obtain ⟨ws, hw, hr⟩ := L.at_
        rw [e]
        exact ⟨L.fr.trans f2, c2, L.no, ws, by rw [upd_ne (fun z => by rw [z, hT] at hw; cases hw)]; exact hw, Rels.mono (tx_new hT) _ _ hr⟩
    exact lc_step hD hg s1 c1 L2 rx (hs i x acc μ' hx p) fun acc2 μ2 H3 L3 p3 => ⟨acc2, μ2, L3, p3⟩
  · have e : i = xs.length := by omega
    subst e
    obtain ⟨vs, hv, hr⟩ := L.at_
    refine .inl ⟨W.stop _ H' (Nat.le_refl _) gH, ?_⟩
    have hbn : back μ' Dl = none := B.nw _ _ hD L.no
    have fb := B.fr _ _ L.fr
    have cb := B.con _ _ L.fr L.con
    refine k _ _ _ H' (fun b o n e => ?_) (con_back (m := .lst acc) cb ⟨vs, hv, hr⟩) (.ref Dl) (hd acc μ' p Dl hbn)
    obtain ⟨e2, n2⟩ := fb b o n e
    have hb : b ≠ Dl := fun z => by
      have e3 := B.old b o n e
      rw [z, hD] at e3; cases e3
    exact ⟨e2, by rw [set_ne hb]; exact n2⟩
theorem back_id (f : Fr μ μ1 H H1) : Back K μ μ1 H H1 id := ⟨fun _ _ g => f.trans g, fun _ _ _ c => c, fun _ _ _ h => h, fun b o n e => (f b o n e).1⟩
/-- a list set aside -/
theorem back_set {a : Addr} {vs : List V} {ds : List D} (c1 : Z.Con K H1 μ1) (hl : μ1 a = some (.lst ds)) (hx : H1 a = some (.lst vs)) (hr : Rels K H1 vs ds) (f : Fr μ μ1 H H1) : Back K μ (μ1.del a) H H1 (fun μ' => μ'.set a (.lst ds)) where
  fr := fun μ' H' g => fr_back hl f g
  con := fun μ' H' g c => con_back (m := .lst ds) c ⟨vs, (g a _ del_same hx).1, Rels.mono (g.tx (c1.sub del_sub)) _ _ hr⟩
  nw := fun μ' p hp n => by
    rw [set_ne (fun z => by rw [z, hx] at hp; cases hp)]
    exact n
  old := fun b o n e => (f b o n e).1
theorem walk_T {a : Addr} {vs : List V} {ds : List D} (hr : Rels K H1 vs ds) : WalkD K (Itt K a) ds (fun _ => False) (fun H' => TupAt K H' a vs ∧ Rels K H' vs ds) where
  keep := fun H H' μ μ' c _ g f => ⟨g.1.mono (f.tx c), Rels.mono (f.tx c) _ _ g.2⟩
  oo := fun _ _ _ h => h.elim
  go := fun i H' hi g => by
    have hv : i < vs.length := by rw [hr.length]; exact hi
    exact ⟨vs, vs[i], g.1.sq, List.getElem?_eq_getElem hv⟩
  stop := fun i H' hi g => ⟨vs, g.1.sq, by rw [hr.length]; exact hi⟩
  yld := fun i H' v H2 hi g y => by
    obtain ⟨e, q⟩ := y
    obtain ⟨x, h1, h2⟩ := g.2.getV (q vs g.1.sq)
    subst e
    exact ⟨x, h1, h2, .inl rfl⟩
theorem walk_L {a : Addr} {vs : List V} {ds : List D} (hr : Rels K H1 vs ds) : WalkD K (Itl K a) ds (fun b => b = a) (fun H' => H' a = some (.lst vs) ∧ Rels K H' vs ds) where
  keep := fun H H' μ μ' c o g f => ⟨(f a _ (o a rfl) g.1).1, Rels.mono (f.tx c) _ _ g.2⟩
  oo := fun _ b g h => by subst h; exact ⟨_, g.1⟩
  go := fun i H' hi g => by
    have hv : i < vs.length := by rw [hr.length]; exact hi
    exact ⟨vs, vs[i], SqL.of g.1, List.getElem?_eq_getElem hv⟩
  stop := fun i H' hi g => ⟨vs, SqL.of g.1, by rw [hr.length]; exact hi⟩
  yld := fun i H' v H2 hi g y => by
    obtain ⟨e, q⟩ := y
    obtain ⟨x, h1, h2⟩ := g.2.getV (q vs (SqL.of g.1))
    subst e
    exact ⟨x, h1, h2, .inl rfl⟩
theorem walk_N {lo : Int} {n : Nat} : WalkD K (Itr lo n) ((List.range n).map fun (i : Nat) => D.int (lo + i)) (fun _ => False) (fun _ => True) where
  keep := fun _ _ _ _ _ _ _ _ => trivial
  oo := fun _ _ _ h => h.elim
  go := fun i H' hi _ => by
    have h : i < n := by simpa using hi
    exact h
  stop := fun i H' hi _ => by
    have h : n ≤ i := by simpa using hi
    exact h
  yld := fun i H' v H2 hi _ y => by
    obtain ⟨e, e2⟩ := y
    have h : i < n := by simpa using hi
    subst e e2
    exact ⟨.int (lo + i), by simp [h], .int _, .inl rfl⟩
variable {Ψ : List D → M → (M → M) → Prop}
theorem ai_T (h : AE K tl τ μ fun d μ1 => ∃ ds, d = .tup ds ∧ Ψ ds μ1 id) : AI K (iTup K tl) τ μ Ψ := fun σ H s c R k => h σ H s c _ fun d μ1 v H1 f1 c1 r1 ⟨ds, e, q⟩ => by
  subst e
  cases r1 with
  | @tup a xs _ ha hr => exact ⟨a, rfl, ⟨xs, ha.sq⟩, k _ ds _ _ H1 μ1 id (f1.tx c) c1 (walk_T hr) ⟨ha, hr⟩ (fun _ z => z.elim) (back_id f1) q⟩
theorem ai_L (h : AE K tl τ μ fun d μ1 => ∃ a ds, d = .ref a ∧ μ1 a = some (.lst ds) ∧ Ψ ds (μ1.del a) (fun μ' => μ'.set a (.lst ds))) : AI K (iList K tl) τ μ Ψ := fun σ H s c R k => h σ H s c _ fun d μ1 v H1 f1 c1 r1 ⟨a, ds, e, hl, q⟩ => by
  subst e
  cases r1
  obtain ⟨xs, hx, hr⟩ := c1 a _ hl
  exact ⟨a, rfl, ⟨xs, SqL.of hx⟩, k _ ds _ _ H1 (μ1.del a) _ (f1.tx c) (c1.sub del_sub) (walk_L hr) ⟨hx, hr⟩ (fun b z => by rw [z]; exact del_same) (back_set c1 hl hx hr f1) q⟩
theorem ai_1 {ta : TA} (h : AA K ta τ μ fun ds μ1 => ∃ n : Int, ds = [.int n] ∧ -(2 ^ 62) ≤ n ∧ n < 2 ^ 62 ∧ Ψ ((List.range n.toNat).map fun (i : Nat) => D.int (0 + i)) μ1 id) : AI K (iRng1 ta) τ μ Ψ := fun σ H s c R k => h σ H s c _ fun ds μ1 vs H1 f1 c1 r1 ⟨n, e, h1, h2, q⟩ => by
  subst e
  cases r1 with
  | cons r rr =>
    cases r
    cases rr
    exact ⟨n, rfl, h1, h2, k _ _ _ _ H1 μ1 id (f1.tx c) c1 walk_N trivial (fun _ z => z.elim) (back_id f1) q⟩
theorem ai_2 {ta : TA} (h : AA K ta τ μ fun ds μ1 => ∃ lo hi : Int, ds = [.int lo, .int hi] ∧ (-(2 ^ 62) ≤ lo ∧ lo < 2 ^ 62 ∧ -(2 ^ 62) ≤ hi ∧ hi < 2 ^ 62) ∧ Ψ ((List.range (hi - lo).toNat).map fun (i : Nat) => D.int (lo + i)) μ1 id) : AI K (iRng2 ta) τ μ Ψ := fun σ H s c R k => h σ H s c _ fun ds μ1 vs H1 f1 c1 r1 ⟨lo, hi, e, h1, q⟩ => by
  subst e
  cases r1 with
  | cons r rr =>
    cases r
    cases rr with
    | cons r rr =>
      cases r
      cases rr
      exact ⟨lo, hi, rfl, h1, k _ _ _ _ H1 μ1 id (f1.tx c) c1 walk_N trivial (fun _ z => z.elim) (back_id f1) q⟩
def zipD : List D → List D → List D
  | x :: xs, y :: ys => .tup [x, y] :: zipD xs ys
  | _, _ => []
theorem zipD_get : ∀ {xs ys : List D} {i : Nat}, i < (zipD xs ys).length → ∃ x y, xs[i]? = some x ∧ ys[i]? = some y ∧ (zipD xs ys)[i]? = some (.tup [x, y])
  | [], _, i, h => by simp [zipD] at h
  | _ :: _, [], i, h => by simp [zipD] at h
  | x :: xs, y :: ys, 0, _ => ⟨x, y, rfl, rfl, rfl⟩
  | x :: xs, y :: ys, i + 1, h => by
    obtain ⟨a, b, h1, h2, h3⟩ := zipD_get (xs := xs) (ys := ys) (i := i) (by simpa [zipD] using h)
    exact ⟨a, b, by simpa using h1, by simpa using h2, by simpa [zipD] using h3⟩
theorem zipD_len : ∀ (xs ys : List D), (zipD xs ys).length = min xs.length ys.length
  | [], _ => by simp [zipD]
  | _ :: _, [] => by simp [zipD]
  | x :: xs, y :: ys => by
    have h := zipD_len xs ys
    simp only [zipD, List.length_cons, h]
    omega
end
theorem pi_zipK {X : Cx} {K : PySem.W.Frag} {e e2 : Expr} {ta : TA} {p pos tpos : Pos} {elts : List Expr} {kk : Nat} (h : X.K = K) (hg : Gl X "zip") (hm : X.mg "zip" = none) (ha : PA X [e, e2] ta)
    (hs : starEach [e, e2] X.env = (false, eval e X.env) :: starEach [e2] X.env := by rfl) (hpl : (backTo pos (starEach [e2] X.env)).any (·.1) = false := by rfl) :
    PI X (.Tuple elts kk tpos) (.Call (.Name "zip" p) [e, e2] [] pos) (RZ.iZipA K ta) := by
  subst h
  exact RZ.pi_zipA hg hm ha hs hpl
end Z
namespace Z
open PySem L2
def Up (Φ : D → M → Prop) : D → M → Prop := fun d μ' => ∃ μ2, Sub μ2 μ' ∧ Φ d μ2
theorem up_of {Φ : D → M → Prop} {d : D} {μ2 μ' : M} (s : Sub μ2 μ') (h : Φ d μ2) : Up Φ d μ' := ⟨μ2, s, h⟩
theorem up {Φ : D → M → Prop} {d : D} {μ' : M} (h : Φ d μ') : Up Φ d μ' := ⟨μ', Sub.refl, h⟩
theorem body_okU {K : PySem.W.Frag} {H : Hp} {ts : TS} {P : PT3} {E : XK} {Ns : List Str} {vs : List V} {Q : VK} (h : spI K P vs H Q E) (hb : ∀ ds μ Φ, P ds μ Φ → AS K ts (startD Ns.length ds) μ { nx := fun _ μ' => Up Φ .non μ', rt := Up Φ }) :
    ts { nx := fun _ H' => Q .non H', rt := Q } (L2.start Ns vs) H := by
  obtain ⟨ds, μ, Φ, r, c, p, k⟩ := h
  refine hb ds μ Φ p _ H (slots_start r) c _ ⟨fun _ μ' _ H' f c' _ q => ?_, fun d μ' v H' f c' r' q => ?_, fun _ _ _ _ _ _ _ q => q.elim, fun _ _ _ _ _ _ _ q => q.elim, fun _ _ _ _ _ _ _ _ _ _ _ q => q.elim⟩
  · obtain ⟨μ2, sb, q⟩ := q
    exact k .non μ2 .non H' (f.sub sb) (c'.sub sb) .non q
  · obtain ⟨μ2, sb, q⟩ := q
    exact k d μ2 v H' (f.sub sb) (c'.sub sb) r' q
def SubB (b : Addr) (μ μ' : M) : Prop := ∀ a m, a ≠ b → μ a = some m → μ' a = some m
section
variable {μ μ' : M} {b l : Addr} {X Y : MO}
theorem sb_refl : SubB b μ μ := fun _ _ _ h => h
theorem sb_self (h : SubB b μ μ') : SubB b μ (μ'.set b Y) := fun a m n e => by rw [set_ne n]; exact h a m n e
theorem sb_new (h : SubB b μ μ') (hn : μ' l = none) : SubB b μ (μ'.set l Y) := fun a m n e => by
  have h2 := h a m n e
  rw [set_ne (fun z => by rw [z, hn] at h2; cases h2)]
  exact h2
theorem sb_sub (h : SubB b μ μ') : Sub (μ.set b X) (μ'.set b X) := fun a m e => by
  by_cases ha : a = b
  · subst ha; rw [set_same] at e ⊢; exact e
  · rw [set_ne ha] at e ⊢; exact h a m ha e
theorem sub_new (h : Sub μ μ') (hn : μ' l = none) : Sub μ (μ'.set l Y) := fun a m e => by
  have h2 := h a m e
  rw [set_ne (fun z => by rw [z, hn] at h2; cases h2)]
  exact h2
/-- a list of one's own, changed again -/
theorem sub_own (h : Sub μ μ') (hn : μ l = none) : Sub μ (μ'.set l Y) := fun a m e => by
  rw [set_ne (fun z => by rw [z, hn] at e; cases e)]
  exact h a m e
theorem none_ne {m : MO} (h : (μ.set b m) l = none) : l ≠ b := fun z => by subst z; rw [set_same] at h; cases h
theorem none_back {m : MO} (h : (μ.set b m) l = none) : μ l = none := by
  have n := none_ne h
  rw [set_ne n] at h
  exact h
end
abbrev Fq := Int × Int
abbrev Pl := Fq × Fq
abbrev encF (p : Fq) : D := pt p.1 p.2
abbrev encP (p : Pl) : D := .tup [pt p.1.1 p.1.2, pt p.2.1 p.2.2]
/-- a number as law helpers make it, in lowest terms or not: the bottom above 0 -/
structure Good (p : Fq) : Prop where
  pos : 0 < p.2
  s1 : Sz 2000 p.1
  s2 : Sz 2000 p.2
structure GoodP (p : Pl) : Prop where
  x : Good p.1
  y : Good p.2
theorem absn (i : Int) : (if i < 0 then -i else i) = (i.natAbs : Int) := by split <;> omega
/-- one turn of Euclid's -/
theorem gcd_turn (l b : Nat) : Nat.gcd (b % l) l = Nat.gcd l b := (Nat.gcd_rec l b).symm
theorem div_fact {x y : Int} {g : Nat} (hy : 0 < y) (h : Nat.gcd x.natAbs y.natAbs = g) : 0 < g ∧ (x / g) * g = x ∧ (y / g) * g = y ∧ 0 < y / (g : Int) := by
  have hg : 0 < g := by
    rw [← h]
    exact Nat.gcd_pos_of_pos_right _ (by omega)
  have d1 : (g : Int) ∣ x := by
    rw [← h]
    exact Int.ofNat_dvd_left.mpr (Nat.gcd_dvd_left _ _)
  have d2 : (g : Int) ∣ y := by
    rw [← h]
    exact Int.ofNat_dvd_left.mpr (Nat.gcd_dvd_right _ _)
  have e1 := Int.ediv_mul_cancel d1
  have e2 := Int.ediv_mul_cancel d2
  refine ⟨hg, e1, e2, ?_⟩
  rcases Int.lt_or_le 0 (y / (g : Int)) with k | k
  · exact k
  · have : y / (g : Int) * g ≤ 0 := Int.mul_nonpos_of_nonpos_of_nonneg k (by omega)
    omega
theorem div_size {x : Int} {g : Nat} {a : Nat} (hg : 0 < g) (h : (x / g) * g = x) (s : Sz a x) : Sz a (x / (g : Int)) := by
  have s' : x.natAbs < 2 ^ a := s
  unfold Sz
  have e : (x / (g : Int)).natAbs * g = x.natAbs := by
    have := congrArg Int.natAbs h
    rw [Int.natAbs_mul, Int.natAbs_natCast] at this
    exact this
  have : (x / (g : Int)).natAbs ≤ (x / (g : Int)).natAbs * g := Nat.le_mul_of_pos_right _ hg
  omega
end Z
namespace Z
open PySem L2
section
variable {K : PySem.W.Frag} {μ μ' : M} {Φ : D → M → Prop} {b l : Addr} {X : MO}
theorem ro_isB {a b : Bool} (q : Φ (.bl (decide (a = b))) μ) : RO K rIsB (.bl a) (.bl b) μ Φ := fun H x y c r1 r2 Q k => by
  cases r1; cases r2
  exact ⟨a, b, rfl, rfl, k _ μ _ H Fr.refl c (.bl _) q⟩
theorem ro_notB {a b : Bool} (q : Φ (.bl (!decide (a = b))) μ) : RO K rNotB (.bl a) (.bl b) μ Φ := fun H x y c r1 r2 Q k => by
  cases r1; cases r2
  exact ⟨a, b, rfl, rfl, k _ μ _ H Fr.refl c (.bl _) q⟩
theorem sb_end (h : SubB b μ μ') (e : μ' b = some X) : Sub (μ.set b X) μ' := fun a m q => by
  by_cases ha : a = b
  · subst ha; rw [set_same] at q; rw [e]; exact q
  · rw [set_ne ha] at q; exact h a m ha q
end
structure Gd (n : Nat) (p : Fq) : Prop where
  pos : 0 < p.2
  s1 : Sz n p.1
  s2 : Sz n p.2
structure GdP (n : Nat) (p : Pl) : Prop where
  x : Gd n p.1
  y : Gd n p.2
theorem Gd.mono {n m : Nat} {p : Fq} (h : Gd n p) (l : n ≤ m) : Gd m p := ⟨h.pos, sz_mono h.s1 l, sz_mono h.s2 l⟩
theorem GdP.mono {n m : Nat} {p : Pl} (h : GdP n p) (l : n ≤ m) : GdP m p := ⟨h.x.mono l, h.y.mono l⟩
theorem GdP.good {n : Nat} {p : Pl} (h : GdP n p) (l : n ≤ 2000) : GoodP p := ⟨⟨h.x.pos, sz_mono h.x.s1 l, sz_mono h.x.s2 l⟩, ⟨h.y.pos, sz_mono h.y.s1 l, sz_mono h.y.s2 l⟩⟩
end Z
namespace Z
open PySem L2
def AO (K : PySem.W.Frag) (to : TO) (τ : T) (μ : M) (Θ : Option Int → M → Prop) : Prop :=
  ∀ σ H, Slots K H τ σ → Z.Con K H μ → ∀ R : Option Int → Hp → Prop, (∀ o μ' H', Fr μ μ' H H' → Z.Con K H' μ' → Θ o μ' → R o H') → to σ H R
/-- what a slice of d answers -/
def RS (K : PySem.W.Frag) (r : V → Option Int → Option Int → Hp → VK → Prop) (d : D) (lo hi : Option Int) (μ : M) (Φ : D → M → Prop) : Prop :=
  ∀ H x, Z.Con K H μ → Rel K H x d → ∀ Q : VK, (∀ z μ' v H', Fr μ μ' H H' → Z.Con K H' μ' → Rel K H' v z → Φ z μ' → Q v H') → r x lo hi H Q
def cutD (ds : List D) (lo hi : Option Int) : List D := (ds.drop (HT.sIx ds.length 0 lo)).take (HT.sIx ds.length ds.length hi - HT.sIx ds.length 0 lo)
section
variable {K : PySem.W.Frag} {τ : T} {μ μ1 μ2 : M} {H H1 H2 H' : Hp} {σ : L2.St} {Φ : D → M → Prop} {ta tl te : TE} {to tp : TO} {Θ : Option Int → M → Prop} {d e : D}
theorem ao_no (h : Θ none μ) : AO K tNoPart τ μ Θ := fun σ H s c R k => k none μ H Fr.refl c h
theorem ao_pt (h : AE K te τ μ fun d μ1 => ∃ i, d = .int i ∧ Θ (some i) μ1) : AO K (tPart te) τ μ Θ := fun σ H s c R k => h σ H s c _ fun d μ1 v H1 f1 c1 r1 ⟨i, e, q⟩ => by
  subst e
  cases r1
  exact ⟨i, rfl, k (some i) μ1 H1 f1 c1 q⟩
theorem a_sl {r : V → Option Int → Option Int → Hp → VK → Prop} (h : AE K te τ μ fun d μ1 => AO K to τ μ1 fun lo μ2 => AO K tp τ μ2 fun hi μ3 => RS K r d lo hi μ3 Φ) : AE K (L2.tSl r te to tp) τ μ Φ := fun σ H s c Q k =>
  h σ H s c _ fun d μ1 v H1 f1 c1 r1 p1 => p1 σ H1 (s.mono (f1.tx c)) c1 _ fun lo μ2 H2 f2 c2 p2 => p2 σ H2 (s.mono ((f1.trans f2).tx c)) c2 _ fun hi μ3 H3 f3 c3 p3 =>
    p3 H3 v c3 (Rel.mono ((f2.trans f3).tx c1) _ _ r1) Q fun z μ' w H' f c' rz pz => k z μ' w H' (((f1.trans f2).trans f3).trans f) c' rz pz
theorem Rels.cut {vs : List V} {ds : List D} (lo hi : Option Int) (r : Rels K H vs ds) : Rels K H (cutV vs lo hi) (cutD ds lo hi) := by
  unfold cutV cutD
  rw [r.length]
  exact (r.drop _).take _
theorem rs_ref {a : Addr} {ds : List D} {lo hi : Option Int} (h : μ a = some (.lst ds)) (q : ∀ p, μ p = none → Φ (.ref p) (μ.set p (.lst (cutD ds lo hi)))) : RS K (rSlL K) (.ref a) lo hi μ Φ := fun H x c r Q k => by
  cases r
  obtain ⟨xs, hx, hr⟩ := c a _ h
  exact ⟨a, xs, rfl, SqL.of hx, fun p hp => k _ _ _ _ (fr_put hp) (con_put (m := .lst (cutD ds lo hi)) hp c ⟨_, upd_same, Rels.mono (tx_new hp) _ _ (hr.cut lo hi)⟩) (.ref p) (q p (c.free hp))⟩
theorem rs_rol {ds : List D} {lo hi : Option Int} (q : ∀ p, μ p = none → Φ (.ref p) (μ.set p (.lst (cutD ds lo hi)))) : RS K (rSlL K) (.rol ds) lo hi μ Φ := fun H x c r Q k => by
  cases r with
  | @rol a xs _ ht hr => exact ⟨a, xs, rfl, ht.sq, fun p hp => k _ _ _ _ (fr_put hp) (con_put (m := .lst (cutD ds lo hi)) hp c ⟨_, upd_same, Rels.mono (tx_new hp) _ _ (hr.cut lo hi)⟩) (.ref p) (q p (c.free hp))⟩
/-- two lists of the store, put together -/
theorem ro_cat {a b : Addr} {ds es : List D} (h1 : μ a = some (.lst ds)) (h2 : μ b = some (.lst es)) (hz : ds.length + es.length ≤ sizeLine) (q : ∀ p, μ p = none → Φ (.ref p) (μ.set p (.lst (ds ++ es)))) : RO K rCat (.ref a) (.ref b) μ Φ := fun H x y c r1 r2 Q k => by
  cases r1
  cases r2
  obtain ⟨xs, hx, hr⟩ := c a _ h1
  obtain ⟨ys, hy, hr2⟩ := c b _ h2
  exact ⟨a, b, xs, ys, rfl, rfl, hx, hy, by rw [hr.length, hr2.length]; exact hz, fun p hp => k _ _ _ _ (fr_put hp) (con_put (m := .lst (ds ++ es)) hp c ⟨_, upd_same, Rels.mono (tx_new hp) _ _ (hr.append hr2)⟩) (.ref p) (q p (c.free hp))⟩
end
end Z
namespace ZL
open PySem PySem.Spec PyProof.Rows PySem.Calls PySem.W
section
variable {prog : Program} {w : World} {A : Around} {E : Value → Shared → Prop} {s : Shared} {z TI TO T S i1 i2 l1 l2 : Addr} {xs ys : Array Value}
/-- one draw while the pair T given out ahead is still there -/
theorem held_item {f : Bool} {oT : Obj} {k : Nat} {x y : Value} {Q : Value → Shared → Prop} (D : ZipApart z TI TO i1 i2 l1 l2) (hz : IsZipHeld s.heap z TI TO T f) (hT : s.heap.get? T = some oT) (hTI : IsPair s.heap TI (.ref i1) (.ref i2))
    (h1 : s.heap.IsTupleIter i1 l1 k) (h2 : s.heap.IsTupleIter i2 l2 k) (hl1 : s.heap.IsTuple l1 xs) (hl2 : s.heap.IsTuple l2 ys) (hx : xs[k]? = some x) (hy : ys[k]? = some y)
    (hQ : ∀ h', IsZipHeld h' z TI TO T true → h'.IsTupleIter i1 l1 (k + 1) → h'.IsTupleIter i2 l2 (k + 1) → IsPair h' s.heap.objs.size x y → h'.objs.size = s.heap.objs.size + 1 → (∀ c o, c ≠ z → c ≠ i1 → c ≠ i2 → s.heap.get? c = some o → h'.get? c = some o) → Q (.ref s.heap.objs.size) { s with heap := h' }) :
    wpAny (model prog w) A (Builtin.«zip.__next__» ⟨[.ref z], []⟩) (fun fin s' => ∃ v, fin = .done (.ret v) ∧ Q v s') E s := by
  show wpAny _ _ (field (.ref z) 2 >>= _) _ _ _; refine wpAny_bind (wpAny_field hz rfl (x := .bool false) rfl ?_)
  show wpAny _ _ (field (.ref z) 3 >>= _) _ _ _; refine wpAny_bind (wpAny_field hz rfl (x := .ref TI) rfl (wpAny_bind (wpAny_seqItems hTI rfl ?_)))
  show wpAny _ _ (Builtin.SmallTypes.ownedTupleIsFree (.ref z) >>= _) _ _ _; refine wpAny_bind (wpAny_tupleHeld_zip hz hT fun g0 z0 b0 => ?_)
  simp only [Bool.false_eq_true, if_false]; refine wpAny_bind ?_
  rw [← Array.forIn_toList]; simp only [List.forIn_cons, List.forIn_nil]
  refine wpAny_bind (wpAny_bind (wpAny_holding ?_)); show wpAny _ _ (Builtin.SmallTypes.nextOf (.ref i1) >>= _) _ _ _
  refine wpAny_bind (RZ.nextOf_tuple_item (s := { s with heap := g0 }) (h1.extBut b0.extBut D.i1z) (hl1.extBut b0.extBut D.l1z) hx fun g1 e1 b1 => wpAny_pure (wpAny_pure ?_))
  refine wpAny_bind (wpAny_bind (wpAny_holding ?_)); show wpAny _ _ (Builtin.SmallTypes.nextOf (.ref i2) >>= _) _ _ _
  refine wpAny_bind (RZ.nextOf_tuple_item (s := { s with heap := g1 }) ((h2.extBut b0.extBut D.i2z).extBut b1.extBut D.i12.symm) ((hl2.extBut b0.extBut D.l2z).extBut b1.extBut D.l2i1) hy fun g2 e2 b2 => wpAny_pure (wpAny_pure (wpAny_pure ?_)))
  have sz : g2.objs.size = s.heap.objs.size := by rw [b2.1, b1.1, b0.1]
  have keep : ∀ c o, c ≠ z → c ≠ i1 → c ≠ i2 → s.heap.get? c = some o → g2.get? c = some o := fun c o n0 n1 n2 e => b2.extBut _ _ n2 (b1.extBut _ _ n1 (b0.extBut _ _ n0 e))
  show wpAny _ _ (newTuple [x, y] >>= _) _ _ _
  refine wpAny_bind (wpAny_newTuple (wpAny_pure ⟨_, rfl, ?_⟩))
  show Q (.ref g2.objs.size) _
  have hp : IsPair (g2.push { cls := .type "tuple", data := .seq #[x, y] }) g2.objs.size x y := Heap.get?_push_size _ rfl
  have sz2 : (g2.push { cls := .type "tuple", data := .seq #[x, y] }).objs.size = g2.objs.size + 1 := Heap.size_push ..
  rw [sz] at hp sz2 ⊢
  exact hQ _ (Heap.get?_push_of_some _ (b2.extBut _ _ D.i2z.symm (b1.extBut _ _ D.i1z.symm z0))) ((e1.extBut b2.extBut D.i12).at fun o q => Heap.get?_push_of_some _ q) (e2.at fun o q => Heap.get?_push_of_some _ q) hp sz2 fun c o n0 n1 n2 q => Heap.get?_push_of_some _ (keep c o n0 n1 n2 q)
theorem held_end {f : Bool} {oT : Obj} {k : Nat} {Q : Fin → Shared → Prop} (hh : A.handled = none) (D : ZipApart z TI TO i1 i2 l1 l2) (hz : IsZipHeld s.heap z TI TO T f) (hT : s.heap.get? T = some oT) (hTI : IsPair s.heap TI (.ref i1) (.ref i2))
    (h1 : s.heap.IsTupleIter i1 l1 k) (h2 : s.heap.IsTupleIter i2 l2 k) (hl1 : s.heap.IsTuple l1 xs) (hl2 : s.heap.IsTuple l2 ys) (hend : xs[k]? = none ∨ ys[k]? = none)
    (hE : ∀ h' e, (∀ c o, c ≠ z → c ≠ i1 → c ≠ i2 → s.heap.get? c = some o → h'.get? c = some o) → (∃ o, h'.get? e = some o ∧ o.cls = .type "StopIteration") → E (.ref e) { s with heap := h' }) :
    wpAny (model prog w) A (Builtin.«zip.__next__» ⟨[.ref z], []⟩) Q E s := by
  show wpAny _ _ (field (.ref z) 2 >>= _) _ _ _; refine wpAny_bind (wpAny_field hz rfl (x := .bool false) rfl ?_)
  show wpAny _ _ (field (.ref z) 3 >>= _) _ _ _; refine wpAny_bind (wpAny_field hz rfl (x := .ref TI) rfl (wpAny_bind (wpAny_seqItems hTI rfl ?_)))
  show wpAny _ _ (Builtin.SmallTypes.ownedTupleIsFree (.ref z) >>= _) _ _ _; refine wpAny_bind (wpAny_tupleHeld_zip hz hT fun g0 z0 b0 => ?_)
  simp only [Bool.false_eq_true, if_false]; refine wpAny_bind ?_
  rw [← Array.forIn_toList]; simp only [List.forIn_cons, List.forIn_nil]
  refine wpAny_bind (wpAny_bind (wpAny_holding ?_)); show wpAny _ _ (Builtin.SmallTypes.nextOf (.ref i1) >>= _) _ _ _
  cases hx : xs[k]? with
  | none => exact wpAny_bind (RZ.nextOf_tuple_end (s := { s with heap := g0 }) hh (h1.extBut b0.extBut D.i1z) (hl1.extBut b0.extBut D.l1z) hx fun g1 e b1 he => hE g1 e (fun c o n0 n1 _ q => b1 _ _ n1 (b0.extBut _ _ n0 q)) he)
  | some x =>
    have hy : ys[k]? = none := hend.elim (fun h => by rw [hx] at h; cases h) id
    refine wpAny_bind (RZ.nextOf_tuple_item (s := { s with heap := g0 }) (h1.extBut b0.extBut D.i1z) (hl1.extBut b0.extBut D.l1z) hx fun g1 e1 b1 => wpAny_pure (wpAny_pure ?_))
    refine wpAny_bind (wpAny_bind (wpAny_holding ?_)); show wpAny _ _ (Builtin.SmallTypes.nextOf (.ref i2) >>= _) _ _ _
    exact wpAny_bind (RZ.nextOf_tuple_end (s := { s with heap := g1 }) hh ((h2.extBut b0.extBut D.i2z).extBut b1.extBut D.i12.symm) ((hl2.extBut b0.extBut D.l2z).extBut b1.extBut D.l2i1) hy fun g2 e b2 he => hE g2 e (fun c o n0 n1 n2 q => b2 _ _ n2 (b1.extBut _ _ n1 (b0.extBut _ _ n0 q))) he)
/-- how the zip stands ahead of turn k, while a list S takes its pairs -/
def ZSt (h : Heap) (z TI TO i1 i2 l1 l2 S : Addr) (xs ys : Array Value) (k : Nat) : Prop :=
  (IsPair h TI (.ref i1) (.ref i2) ∧ h.IsTupleIter i1 l1 k ∧ h.IsTupleIter i2 l2 k ∧ h.IsTuple l1 xs ∧ h.IsTuple l2 ys) ∧
  ((IsZip h z TI TO .none ∧ ∃ u v, IsPair h TO u v) ∨ ∃ T f oT, IsZipHeld h z TI TO T f ∧ h.get? T = some oT ∧ T ≠ z ∧ T ≠ i1 ∧ T ≠ i2 ∧ T ≠ S)
structure Off (S z TI TO i1 i2 l1 l2 : Addr) : Prop where
  sz : S ≠ z
  sTI : S ≠ TI
  sTO : S ≠ TO
  s1 : S ≠ i1
  s2 : S ≠ i2
  sl1 : S ≠ l1
  sl2 : S ≠ l2
theorem ZSt.keep {h h' : Heap} {k : Nat} (O : Off S z TI TO i1 i2 l1 l2) (st : ZSt h z TI TO i1 i2 l1 l2 S xs ys k) (hk : ∀ b o, b ≠ S → h.get? b = some o → h'.get? b = some o) : ZSt h' z TI TO i1 i2 l1 l2 S xs ys k := by
  obtain ⟨⟨a1, a2, a3, ⟨o4, a4, b4⟩, ⟨o5, a5, b5⟩⟩, q⟩ := st
  refine ⟨⟨hk _ _ O.sTI.symm a1, a2.at fun o e => hk _ _ O.s1.symm e, a3.at fun o e => hk _ _ O.s2.symm e, ⟨o4, hk _ _ O.sl1.symm a4, b4⟩, ⟨o5, hk _ _ O.sl2.symm a5, b5⟩⟩, ?_⟩
  rcases q with ⟨q1, u, v, q2⟩ | ⟨T, f, oT, q1, q2, n1, n2, n3, n4⟩
  · exact .inl ⟨hk _ _ O.sz.symm q1, u, v, hk _ _ O.sTO.symm q2⟩
  · exact .inr ⟨T, f, oT, hk _ _ O.sz.symm q1, hk _ _ n4 q2, n1, n2, n3, n4⟩
theorem next_item {k : Nat} {x y : Value} {Q : Option Value → Shared → Prop} (D : ZipApart z TI TO i1 i2 l1 l2) (st : ZSt s.heap z TI TO i1 i2 l1 l2 S xs ys k) (hS : S < s.heap.objs.size) (hx : xs[k]? = some x) (hy : ys[k]? = some y)
    (hQ : ∀ h', ZSt h' z TI TO i1 i2 l1 l2 S xs ys (k + 1) → IsPair h' s.heap.objs.size x y → h'.objs.size = s.heap.objs.size + 1 → (∀ c o, c ≠ z → c ≠ TO → c ≠ i1 → c ≠ i2 → s.heap.get? c = some o → h'.get? c = some o) → Q (some (.ref s.heap.objs.size)) { s with heap := h' }) :
    wpAny (model prog w) A (pyNext (.ref z)) Q E s := by
  obtain ⟨⟨a1, a2, a3, a4, a5⟩, q⟩ := st
  have ge : ∀ {c o}, s.heap.get? c = some o → s.heap.objs.size ≠ c := fun e => Nat.ne_of_gt (Heap.lt_size e)
  have g1 : s.heap.objs.size ≠ i1 := by obtain ⟨o, e, _⟩ := a2; exact ge e
  have g2 : s.heap.objs.size ≠ i2 := by obtain ⟨o, e, _⟩ := a3; exact ge e
  have tup : ∀ {h' : Heap}, (∀ c o, c ≠ z → c ≠ TO → c ≠ i1 → c ≠ i2 → s.heap.get? c = some o → h'.get? c = some o) → IsPair h' TI (.ref i1) (.ref i2) ∧ h'.IsTuple l1 xs ∧ h'.IsTuple l2 ys := fun hk => by
    obtain ⟨o4, e4, f4⟩ := a4
    obtain ⟨o5, e5, f5⟩ := a5
    exact ⟨hk _ _ D.TIz D.TITO D.TIi1 D.TIi2 a1, ⟨o4, hk _ _ D.l1z D.l1TO D.l1i1 D.l1i2 e4, f4⟩, ⟨o5, hk _ _ D.l2z D.l2TO D.l2i1 D.l2i2 e5, f5⟩⟩
  rcases q with ⟨q1, u, v, q2⟩ | ⟨T, f, oT, q1, q2, n1, n2, n3, n4⟩
  · refine RZ.pyNext_zipT_item D q1 a1 q2 a2 a3 a4 a5 hx hy fun h' b1 b2 b3 b4 b5 b6 hk => ?_
    obtain ⟨t1, t2, t3⟩ := tup hk
    exact hQ h' ⟨⟨t1, b3, b4, t2, t3⟩, .inr ⟨_, false, _, b1, b5, ge q1, g1, g2, Nat.ne_of_gt hS⟩⟩ b5 b6 hk
  · have hTy : s.TypeIs (.ref z) "zip" := ⟨_, q1, rfl⟩
    unfold pyNext
    refine wpAny_bind (wpAny_attempt (wpAny_callSpecial?_slot (name := Str.ofString "__next__") hTy F.slot_zip_next (wpAny_call_entry F.slot_zip_next hTy F.entry_zip_next (held_item D q1 q2 a1 a2 a3 a4 a5 hx hy fun h' b1 b3 b4 b5 b6 hk => wpAny_pure ?_) (F.args_zip_next_1 _))))
    obtain ⟨t1, t2, t3⟩ := tup fun c o c1 _ c3 c4 e => hk c o c1 c3 c4 e
    exact hQ h' ⟨⟨t1, b3, b4, t2, t3⟩, .inr ⟨T, true, oT, b1, hk _ _ n1 n2 n3 q2, n1, n2, n3, n4⟩⟩ b5 b6 fun c o c1 _ c3 c4 e => hk c o c1 c3 c4 e
theorem next_end {k : Nat} {Q : Option Value → Shared → Prop} (hh : A.handled = none) (D : ZipApart z TI TO i1 i2 l1 l2) (st : ZSt s.heap z TI TO i1 i2 l1 l2 S xs ys k) (hend : xs[k]? = none ∨ ys[k]? = none)
    (hQ : ∀ h', (∀ c o, c ≠ z → c ≠ TO → c ≠ i1 → c ≠ i2 → s.heap.get? c = some o → h'.get? c = some o) → Q none { s with heap := h' }) : wpAny (model prog w) A (pyNext (.ref z)) Q E s := by
  obtain ⟨⟨a1, a2, a3, a4, a5⟩, q⟩ := st
  rcases q with ⟨q1, u, v, q2⟩ | ⟨T, f, oT, q1, q2, n1, n2, n3, n4⟩
  · exact RZ.pyNext_zipT_end hh D q1 a1 q2 a2 a3 a4 a5 hend hQ
  · have hTy : s.TypeIs (.ref z) "zip" := ⟨_, q1, rfl⟩
    unfold pyNext
    refine wpAny_bind (wpAny_attempt (wpAny_callSpecial?_slot (name := Str.ofString "__next__") hTy F.slot_zip_next (wpAny_call_entry F.slot_zip_next hTy F.entry_zip_next (held_end hh D q1 q2 a1 a2 a3 a4 a5 hend fun h' e hk he => ?_) (F.args_zip_next_1 _))))
    obtain ⟨o, ho, hc⟩ := he
    exact wpAny_bind (wpAny_isInstance (T := "StopIteration") (b := true) ⟨o, ho, hc⟩ isSubtype_stop (wpAny_pure (hQ _ fun c o c1 _ c3 c4 e => hk c o c1 c3 c4 e)))
end
/-- what was made: a row of new pairs, each at a greater place -/
structure Row (xs ys : Array Value) (lo : Addr) (h : Heap) (as : List Addr) : Prop where
  rise : as.Pairwise (· < ·)
  above : ∀ a ∈ as, lo < a
  at_ : ∀ (j : Nat) (a : Addr), as[j]? = some a → ∃ x y, xs[j]? = some x ∧ ys[j]? = some y ∧ IsPair h a x y
section
variable {prog : Program} {w : World} {A : Around} {E : Value → Shared → Prop} {s : Shared} {z TI TO T S i1 i2 l1 l2 : Addr} {xs ys : Array Value} {R : Result → Shared → Prop}
theorem takes (hh : A.handled = none) (D : ZipApart z TI TO i1 i2 l1 l2) (O : Off S z TI TO i1 i2 l1 l2) (lo : Addr) (hlo : ∀ b, b = S ∨ b = z ∨ b = TO ∨ b = i1 ∨ b = i2 → b ≤ lo) (res : Value) {h1 : Heap} (n : Nat) (hn : n = min xs.size ys.size) (hz : n ≤ sizeLine)
    (hR : ∀ h' acc c as, (∀ b o, b ≠ S → b ≠ z → b ≠ TO → b ≠ i1 → b ≠ i2 → h1.get? b = some o → h'.get? b = some o) → h'.get? S = some { cls := .type "list", dict := none, data := .seq acc c, slots := #[] } → as.length = n → Row xs ys lo h' as → acc.toList = as.map Value.ref → R (.ok (.ret res)) { s with heap := h' }) :
    ∀ (m k : Nat) (h : Heap) (c : Nat) (acc : Array Value) (as : List Addr), n - k = m → k ≤ n → ZSt h z TI TO i1 i2 l1 l2 S xs ys k → (∀ b o, b ≠ S → b ≠ z → b ≠ TO → b ≠ i1 → b ≠ i2 → h1.get? b = some o → h.get? b = some o) →
      h.get? S = some { cls := .type "list", dict := none, data := .seq acc c, slots := #[] } → acc.toList = as.map Value.ref → as.length = k → Row xs ys lo h as → lo < h.objs.size →
      codeAny (model prog w) A (.builtin "list.extend.loop" ⟨[.ref S, .ref z, res], []⟩) R { s with heap := h } := by
  intro m
  induction m with
  | zero =>
    intro k h c acc as hm hk st keep hS hacc hal G hlt
    refine codeAny_builtin PySem.F.entry_extend_loop ?_
    rw [Around.under_plainId PySem.F.plain_extend_loop _]
    show wpAny _ A.in1 (pyNext (.ref z) >>= _) _ _ _
    have hkn : k = n := by omega
    have hend : xs[k]? = none ∨ ys[k]? = none := by
      by_cases h3 : xs.size ≤ k
      · exact .inl (Array.getElem?_eq_none h3)
      · exact .inr (Array.getElem?_eq_none (by omega))
    refine wpAny_bind (next_end (s := { s with heap := h }) (A := A.in1) hh D st hend fun h' he => wpAny_pure (hR h' acc c as (fun b o b0 b1 b2 b3 b4 e => he b o b1 b2 b3 b4 (keep b o b0 b1 b2 b3 b4 e)) (he _ _ O.sz O.sTO O.s1 O.s2 hS) (hal.trans hkn) ⟨G.rise, G.above, fun j a hj => ?_⟩ hacc))
    obtain ⟨x, y, e1, e2, e3⟩ := G.at_ j a hj
    have ha := G.above a (List.mem_of_getElem? hj)
    have off : ∀ b, b = S ∨ b = z ∨ b = TO ∨ b = i1 ∨ b = i2 → a ≠ b := fun b hb => Nat.ne_of_gt (Nat.lt_of_le_of_lt (hlo b hb) ha)
    exact ⟨x, y, e1, e2, he a _ (off z (by simp)) (off TO (by simp)) (off i1 (by simp)) (off i2 (by simp)) e3⟩
  | succ m ih =>
    intro k h c acc as hm hk st keep hS hacc hal G hlt
    have hk1 : k < xs.size := by omega
    have hk2 : k < ys.size := by omega
    have hsz : acc.size = k := by rw [← Array.length_toList, hacc, List.length_map, hal]
    have hSl : S < h.objs.size := Heap.lt_size hS
    refine codeAny_builtin PySem.F.entry_extend_loop ?_
    rw [Around.under_plainId PySem.F.plain_extend_loop _]
    show wpAny _ A.in1 (pyNext (.ref z) >>= _) _ _ _
    refine wpAny_bind (next_item (s := { s with heap := h }) (A := A.in1) D st hSl (x := xs[k]) (y := ys[k]) (Array.getElem?_eq_getElem hk1) (Array.getElem?_eq_getElem hk2) fun h' st' hp hsz' hkp => ?_)
    dsimp only at hp hsz' hkp ⊢
    have hS' := hkp S _ O.sz O.sTO O.s1 O.s2 hS
    have up : ∀ b o, b ≠ S → h'.get? b = some o → (h'.update S (Obj.mapSeq (·.push (Value.ref h.objs.size)))).get? b = some o := fun b o hb e => (Heap.get?_update_other _ _ (Ne.symm hb)).trans e
    show wpAny _ A.in1 (updateSeq S (·.push (Value.ref h.objs.size)) >>= _) _ _ _
    have hnew : (h'.update S (Obj.mapSeq (·.push (Value.ref h.objs.size)))).get? h.objs.size = _ := up _ _ (Nat.ne_of_gt hSl) hp
    refine wpAny_bind (wpAny_updateSeq hS' rfl (wpAny_pure ⟨plainId_quiet PySem.F.plain_extend_loop _, ih (k + 1) _ _ (acc.push (Value.ref h.objs.size)) (as ++ [h.objs.size]) (by omega) (by omega) (st'.keep O up) (fun b o b0 b1 b2 b3 b4 e => up b o b0 (hkp b o b1 b2 b3 b4 (keep b o b0 b1 b2 b3 b4 e)))
      (Heap.get?_update_self _ hS' rfl) (by rw [Array.toList_push, hacc, List.map_append]; rfl) (by rw [List.length_append, hal]; rfl) ⟨?_, ?_, ?_⟩ (Nat.lt_trans hlt (Heap.lt_size hnew))⟩) (by rw [hsz]; omega) (by show (acc.push (Value.ref h.objs.size)).size ≤ sizeLine + 1; rw [Array.size_push, hsz]; omega))
    · refine List.pairwise_append.mpr ⟨G.rise, List.pairwise_singleton _ _, fun a ha b hb => ?_⟩
      rw [List.mem_singleton.mp hb]
      obtain ⟨j, hj⟩ := List.mem_iff_getElem?.mp ha
      obtain ⟨_, _, _, _, e⟩ := G.at_ j a hj
      exact Heap.lt_size e
    · intro a ha
      rcases List.mem_append.mp ha with ha | ha
      · exact G.above a ha
      · rw [List.mem_singleton.mp ha]; exact hlt
    · intro j b hj
      rcases Nat.lt_trichotomy j as.length with q | q | q
      · rw [List.getElem?_append_left q] at hj
        obtain ⟨x, y, e1, e2, e3⟩ := G.at_ j b hj
        have ha := G.above b (List.mem_of_getElem? hj)
        have off : ∀ b', b' = S ∨ b' = z ∨ b' = TO ∨ b' = i1 ∨ b' = i2 → b ≠ b' := fun b' hb => Nat.ne_of_gt (Nat.lt_of_le_of_lt (hlo b' hb) ha)
        exact ⟨x, y, e1, e2, up b _ (off S (by simp)) (hkp b _ (off z (by simp)) (off TO (by simp)) (off i1 (by simp)) (off i2 (by simp)) e3)⟩
      · subst q
        have hb : h.objs.size = b := by simpa using hj
        subst hb
        exact ⟨xs[k], ys[k], by rw [hal]; exact Array.getElem?_eq_getElem hk1, by rw [hal]; exact Array.getElem?_eq_getElem hk2, hnew⟩
      · have hnone : (as ++ [h.objs.size])[j]? = none := List.getElem?_eq_none (by rw [List.length_append, List.length_singleton]; omega)
        rw [hnone] at hj; cases hj
theorem zip_no_len : typeLookup (.type "zip") "__len__" = pure none := am_miss_of_fast (by decide +kernel)
theorem zip_no_hint : typeLookup (.type "zip") "__length_hint__" = pure none := am_miss_of_fast (by decide +kernel)
theorem hint_zip (hT : s.TypeIs (.ref z) "zip") {Q : Bool → Shared → Prop} (h : Q true s) : wpAny (model prog w) A (Builtin.List.listLengthHint (.ref z)) Q E s := by
  unfold Builtin.List.listLengthHint
  refine wpAny_bind (wpAny_specialOf hT zip_no_len ?_)
  wp_delta
  refine wpAny_ite_split (fun hab => absurd hab (by decide)) (fun _ => ?_)
  refine wpAny_ite_split (fun hab => absurd hab (by decide)) (fun _ => ?_)
  refine wpAny_bind (wpAny_specialOf hT zip_no_hint ?_)
  exact wpAny_pure h
theorem extend (hh : A.handled = none) (D : ZipApart z TI TO i1 i2 l1 l2) (O : Off S z TI TO i1 i2 l1 l2) (hlo : ∀ b, b = S ∨ b = z ∨ b = TO ∨ b = i1 ∨ b = i2 → b < s.heap.objs.size) (res : Value) (hn : min xs.size ys.size ≤ sizeLine)
    (hz : IsZip s.heap z TI TO .none) (st : ZSt s.heap z TI TO i1 i2 l1 l2 S xs ys 0) (c0 : Nat) (hS : s.heap.get? S = some { cls := .type "list", dict := none, data := .seq #[] c0, slots := #[] })
    (hR : ∀ h' acc c as, (∀ b o, b ≠ S → b ≠ z → b ≠ TO → b ≠ i1 → b ≠ i2 → s.heap.get? b = some o → h'.get? b = some o) → h'.get? S = some { cls := .type "list", dict := none, data := .seq acc c, slots := #[] } → as.length = min xs.size ys.size → Row xs ys (s.heap.objs.size - 1) h' as → acc.toList = as.map Value.ref → R (.ok (.ret res)) { s with heap := h' }) :
    wpAny (model prog w) A.in1 (Builtin.List.listExtendWith (.ref S) (.ref z) res) (fun fin s' => match fin with | .done f => R (.ok f) s' | .again c' => c'.quiet = true ∧ codeAny (model prog w) A c' R s') (fun e s' => R (.error e) s') s := by
  have pos : 0 < s.heap.objs.size := Nat.lt_of_le_of_lt (Nat.zero_le _) (Heap.lt_size hS)
  have key : ∀ (h : Heap) (c1 : Nat), (∀ b o, b ≠ S → s.heap.get? b = some o → h.get? b = some o) → h.objs.size = s.heap.objs.size → h.get? S = some { cls := .type "list", dict := none, data := .seq #[] c1, slots := #[] } → codeAny (model prog w) A (.builtin "list.extend.loop" ⟨[.ref S, .ref z, res], []⟩) R { s with heap := h } := fun h c1 hk hz hS1 =>
    takes (s := s) (h1 := s.heap) hh D O (s.heap.objs.size - 1) (fun b hb => Nat.le_sub_one_of_lt (hlo b hb)) res (min xs.size ys.size) rfl hn (fun h' acc c as k2 hS' hl hG hacc => hR h' acc c as k2 hS' hl hG hacc)
      _ 0 h c1 #[] [] rfl (Nat.zero_le _) (st.keep O hk) (fun b o b0 _ _ _ _ e => hk b o b0 e) hS1 rfl rfl ⟨List.Pairwise.nil, (fun _ ha => nomatch ha), (fun j a hj => by simp at hj)⟩ (by rw [hz]; exact Nat.sub_lt pos Nat.one_pos)
  have hT : s.TypeIs (.ref z) "zip" := ⟨_, hz, rfl⟩
  unfold Builtin.List.listExtendWith
  refine wpAny_bind (wpAny_typeOf (T := "zip") hT ?_)
  have e1 : Builtin.List.listSameRef (.ref S) (.ref z) = false := by simp [Builtin.List.listSameRef, O.sz]
  have e2 : (Value.type "zip" == Value.type "list") = false := by decide
  have e3 : (Value.type "zip" == Value.type "tuple") = false := by decide
  simp only [e1, e2, e3, Bool.or_false, Bool.false_eq_true, if_false]
  refine wpAny_bind (wpAny_pyIter_zip hz ?_)
  refine wpAny_bind (wpAny_holding (hint_zip hT ?_))
  simp only [Bool.true_or, if_true]
  refine wpAny_bind (wpAny_rule ?_)
  refine wpAny_bind ?_
  show wpAny _ _ (updateSeq S (·.push .none) >>= fun _ => updateSeq S (·.pop)) _ _ _
  refine wpAny_bind (wpAny_updateSeq hS rfl ?_)
  have hS2 := Heap.get?_update_self (Obj.mapSeq (·.push Value.none)) hS rfl
  refine wpAny_updateSeq (hz := by seq_fits) hS2 rfl ?_
  have hS3 := Heap.get?_update_self (Obj.mapSeq (·.pop)) hS2 rfl
  refine wpAny_pure ⟨plainId_quiet PySem.F.plain_extend_loop _, key _ _ (fun b o hb e => ?_) ?_ hS3⟩
  · exact (Heap.get?_update_other _ _ (Ne.symm hb)).trans ((Heap.get?_update_other _ _ (Ne.symm hb)).trans e)
  · rw [Heap.size_update, Heap.size_update]
/-- list(z), z a zip of two tuples that was just made: all in terms of what stood ahead of it -/
theorem call_list_zip {Q : Value → Shared → Prop} (hh : A.handled = none) (D : ZipApart z TI TO i1 i2 l1 l2) (hn : min xs.size ys.size ≤ sizeLine) (hz : IsZip s.heap z TI TO .none) (hTI : IsPair s.heap TI (.ref i1) (.ref i2)) {u v : Value} (hTO : IsPair s.heap TO u v)
    (h1 : s.heap.IsTupleIter i1 l1 0) (h2 : s.heap.IsTupleIter i2 l2 0) (hl1 : s.heap.IsTuple l1 xs) (hl2 : s.heap.IsTuple l2 ys)
    (hQ : ∀ h' acc c as, (∀ b o, b ≠ z → b ≠ TO → b ≠ i1 → b ≠ i2 → s.heap.get? b = some o → h'.get? b = some o) → h'.get? s.heap.objs.size = some { cls := .type "list", dict := none, data := .seq acc c, slots := #[] } → as.length = min xs.size ys.size → Row xs ys s.heap.objs.size h' as → acc.toList = as.map Value.ref → Q (.ref s.heap.objs.size) { s with heap := h' }) :
    wpAny (model prog w) A (call (.type "list") [.ref z]) Q E s := by
  refine callType_codes (Q₁ := fun obj s₁ => obj = .ref s.heap.objs.size ∧ s₁ = { s with heap := s.heap.push { cls := .type "list", data := .seq #[] } }) PySem.F.called_list (PySem.F.typeCall_list_1 _) PySem.F.entry_list_init (code_list_new _ ⟨rfl, rfl⟩) fun obj s₁ h₁ => ?_
  obtain ⟨rfl, rfl⟩ := h₁
  have hS : (s.heap.push { cls := .type "list", data := .seq #[] }).get? s.heap.objs.size = some { cls := .type "list", data := .seq #[] } := Heap.get?_push_size _ rfl
  refine ⟨⟨_, hS, rfl⟩, PySem.F.args_list_init_2 _ _, ?_⟩
  show wpAny _ _ (do let old ← Builtin.List.listItems (.ref s.heap.objs.size); Builtin.List.listUpdate (.ref s.heap.objs.size) (fun _ => #[]); letGo old.toList.reverse; Builtin.List.listExtendWith (.ref s.heap.objs.size) (.ref z) .none) _ _ _
  refine wpAny_bind ?_
  unfold Builtin.List.listItems
  refine wpAny_bind (wpAny_seqItems hS rfl (wpAny_pure ?_))
  generalize hSS : s.heap.objs.size = SS at hS ⊢
  show wpAny _ _ (updateSeq SS (fun _ => #[]) >>= fun _ => letGo (#[] : Array Value).toList.reverse >>= fun _ => Builtin.List.listExtendWith (.ref SS) (.ref z) .none) _ _ _
  refine wpAny_bind (wpAny_updateSeq hS rfl ?_)
  have hS2 := Heap.get?_update_self (Obj.mapSeq (fun _ => (#[] : Array Value))) hS rfl
  have low : ∀ {b o}, s.heap.get? b = some o → b < SS := fun e => by rw [← hSS]; exact Heap.lt_size e
  have kp : ∀ b o, s.heap.get? b = some o → ((s.heap.push { cls := .type "list", data := .seq #[] }).update SS (Obj.mapSeq (fun _ => (#[] : Array Value)))).get? b = some o := fun b o e => (Heap.get?_update_other _ _ (Nat.ne_of_gt (low e))).trans (Heap.get?_push_of_some _ e)
  have q1 : i1 < SS := by obtain ⟨_, e, _⟩ := h1; exact low e
  have q2 : i2 < SS := by obtain ⟨_, e, _⟩ := h2; exact low e
  have q3 : l1 < SS := by obtain ⟨_, e, _⟩ := hl1; exact low e
  have q4 : l2 < SS := by obtain ⟨_, e, _⟩ := hl2; exact low e
  have O : Off SS z TI TO i1 i2 l1 l2 := ⟨Nat.ne_of_gt (low hz), Nat.ne_of_gt (low hTI), Nat.ne_of_gt (low hTO), Nat.ne_of_gt q1, Nat.ne_of_gt q2, Nat.ne_of_gt q3, Nat.ne_of_gt q4⟩
  have hsz : ((s.heap.push { cls := .type "list", data := .seq #[] }).update SS (Obj.mapSeq (fun _ => (#[] : Array Value)))).objs.size = SS + 1 := by rw [Heap.size_update, Heap.size_push, hSS]
  have hl1' : Heap.IsTuple ((s.heap.push { cls := .type "list", data := .seq #[] }).update SS (Obj.mapSeq (fun _ => (#[] : Array Value)))) l1 xs := by obtain ⟨o, e, f⟩ := hl1; exact ⟨o, kp _ _ e, f⟩
  have hl2' : Heap.IsTuple ((s.heap.push { cls := .type "list", data := .seq #[] }).update SS (Obj.mapSeq (fun _ => (#[] : Array Value)))) l2 ys := by obtain ⟨o, e, f⟩ := hl2; exact ⟨o, kp _ _ e, f⟩
  refine wpAny_bind (wpAny_letGo ?_)
  refine extend (A := A.in1) hh D O (fun b hb => ?_) .none hn (kp _ _ hz) ⟨⟨kp _ _ hTI, h1.at fun o e => kp _ _ e, h2.at fun o e => kp _ _ e, hl1', hl2'⟩, .inl ⟨kp _ _ hz, u, v, kp _ _ hTO⟩⟩ _ hS2 fun h' acc c as k2 hS' hl G hacc => ?_
  · show b < ((s.heap.push { cls := .type "list", data := .seq #[] }).update SS (Obj.mapSeq (fun _ => (#[] : Array Value)))).objs.size
    rw [hsz]
    rcases hb with e | e | e | e | e
    · rw [e]; exact Nat.lt_succ_self _
    · rw [e]; exact Nat.lt_succ_of_lt (low hz)
    · rw [e]; exact Nat.lt_succ_of_lt (low hTO)
    · rw [e]; exact Nat.lt_succ_of_lt q1
    · rw [e]; exact Nat.lt_succ_of_lt q2
  · have G' : Row xs ys SS h' as := by
      have e : ((s.heap.push { cls := .type "list", data := .seq #[] }).update SS (Obj.mapSeq (fun _ => (#[] : Array Value)))).objs.size - 1 = SS := by rw [hsz]; rfl
      have G2 : Row xs ys (((s.heap.push { cls := .type "list", data := .seq #[] }).update SS (Obj.mapSeq (fun _ => (#[] : Array Value)))).objs.size - 1) h' as := G
      rw [e] at G2
      exact G2
    subst hSS
    exact ⟨rfl, hQ h' acc c as (fun b o b1 b2 b3 b4 e => k2 b o (Nat.ne_of_lt (low e)) b1 b2 b3 b4 (kp _ _ e)) hS' hl G' hacc⟩
end
def tListZip (K : PySem.W.Frag) (ta : L2.TA) : L2.TE := fun σ H Q => ta σ H fun vs H1 => ∃ (a b : Addr) (xs ys : List L2.V), vs = [.ref a, .ref b] ∧ L2.SqT K H1 a xs ∧ L2.SqT K H1 b ys ∧
  ∀ (H' : L2.Hp) (p : Addr) (ts : List Addr), (∀ c o, H1 c = some o → H' c = some o) → H1 p = none → H' p = some (.lst (ts.map L2.V.ref)) → ts.length = min xs.length ys.length →
    (∀ (j : Nat) (t : Addr), ts[j]? = some t → H1 t = none ∧ t ≠ p ∧ ∃ x y, xs[j]? = some x ∧ ys[j]? = some y ∧ H' t = some (.tup [x, y])) → Q (.ref p) H'
section
open L2
def look : List Addr → List (V × V) → Addr → Option (V × V)
  | a :: as, z :: zs, b => if b = a then some z else look as zs b
  | _, _, _ => none
theorem look_at : ∀ {as : List Addr} {zs : List (V × V)} {j : Nat} {a : Addr} {z : V × V}, as.Nodup → as[j]? = some a → zs[j]? = some z → look as zs a = some z
  | [], _, _, _, _, _, h, _ => by simp at h
  | _ :: _, [], _, _, _, _, _, h => by simp at h
  | b :: as, y :: zs, 0, a, z, _, h, k => by
    have e1 : b = a := by simpa using h
    have e2 : y = z := by simpa using k
    unfold look
    rw [if_pos e1.symm, e2]
  | b :: as, y :: zs, j + 1, a, z, hn, h, k => by
    have hn' := List.nodup_cons.mp hn
    have h' : as[j]? = some a := by simpa using h
    have ne : a ≠ b := fun e => hn'.1 (by rw [← e]; exact List.mem_of_getElem? h')
    unfold look
    rw [if_neg ne]
    exact look_at hn'.2 h' (by simpa using k)
theorem look_out : ∀ {as : List Addr} {zs : List (V × V)} {a : Addr}, a ∉ as → look as zs a = none
  | [], _, _, _ => by unfold look; rfl
  | _ :: _, [], _, _ => by unfold look; rfl
  | b :: as, y :: zs, a, h => by
    unfold look
    rw [if_neg (fun e => h (by rw [e]; exact List.mem_cons_self))]
    exact look_out fun e => h (List.mem_cons_of_mem _ e)
def lay (H : Hp) (S : Addr) (as : List Addr) (zs : List (V × V)) : Hp := fun b => if b = S then some (.lst (as.map V.ref)) else match look as zs b with
  | some (x, y) => some (.tup [x, y])
  | none => H b
variable {X : Cx} {e e2 : Expr} {ta : TA} {p p2 cpos pos : Pos}
theorem laid {pins : List (Addr × Obj)} {σ : L2.St} {H : Hp} {s : Shared} {h' : Heap} {S : Addr} {acc : Array Value} {c : Nat} {as : List Addr} {xs ys : List V} {us vs : List Value} (I : Inv X pins σ H s) (hS0 : s.heap.objs.size ≤ S) (hk : ∀ b o, s.heap.get? b = some o → h'.get? b = some o) (rx : Vals xs us) (ry : Vals ys vs)
    (hS : h'.get? S = some { cls := .type "list", dict := none, data := .seq acc c, slots := #[] }) (hz : min us.length vs.length ≤ sizeLine) (hl : as.length = min us.length vs.length) (G : Row us.toArray vs.toArray S h' as) (hacc : acc.toList = as.map Value.ref) :
    Inv X pins σ (lay H S as (xs.zip ys)) { s with heap := h' } ∧ (∀ b o, H b = some o → lay H S as (xs.zip ys) b = some o) ∧ H S = none ∧ (∀ (j : Nat) t, as[j]? = some t → H t = none ∧ t ≠ S ∧ ∃ x y, xs[j]? = some x ∧ ys[j]? = some y ∧ lay H S as (xs.zip ys) t = some (.tup [x, y])) := by
  have nd : as.Nodup := List.Pairwise.imp (fun {a b} (h : a < b) => Nat.ne_of_lt h) G.rise
  have newS : H S = none := I.hok.fresh hS0
  have new : ∀ t ∈ as, H t = none := fun t ht => I.hok.fresh (Nat.le_of_lt (Nat.lt_of_le_of_lt hS0 (G.above t ht)))
  have offS : ∀ t ∈ as, t ≠ S := fun t ht => Nat.ne_of_gt (G.above t ht)
  have low : ∀ b o, s.heap.get? b = some o → b ∉ as ∧ b ≠ S := fun b o e => ⟨fun z => absurd (Heap.lt_size e) (Nat.not_lt.mpr (Nat.le_of_lt (Nat.lt_of_le_of_lt hS0 (G.above b z)))), Nat.ne_of_lt (Nat.lt_of_lt_of_le (Heap.lt_size e) hS0)⟩
  have eS : lay H S as (xs.zip ys) S = some (.lst (as.map V.ref)) := by unfold lay; rw [if_pos rfl]
  have off : ∀ b, b ∉ as → b ≠ S → lay H S as (xs.zip ys) b = H b := fun b h1 h2 => by unfold lay; rw [if_neg h2, look_out h1]
  have kp : ∀ b u, H b = some u → lay H S as (xs.zip ys) b = some u := fun b u e => by
    rw [off b (fun z => by rw [new b z] at e; cases e) (fun z => by rw [z, newS] at e; cases e)]; exact e
  have at_ : ∀ (j : Nat) t, as[j]? = some t → ∃ x y u v, xs[j]? = some x ∧ ys[j]? = some y ∧ us[j]? = some u ∧ vs[j]? = some v ∧ RelV x u ∧ RelV y v ∧ lay H S as (xs.zip ys) t = some (.tup [x, y]) ∧ IsPair h' t u v := fun j t hj => by
    obtain ⟨u, v, e1, e2, e3⟩ := G.at_ j t hj
    have e1 : us[j]? = some u := by simpa using e1
    have e2 : vs[j]? = some v := by simpa using e2
    have hj1 : j < xs.length := by rw [rx.length]; exact (List.getElem?_eq_some_iff.mp e1).1
    have hj2 : j < ys.length := by rw [ry.length]; exact (List.getElem?_eq_some_iff.mp e2).1
    obtain ⟨u', f1, r1⟩ := rx.get (List.getElem?_eq_getElem hj1)
    obtain ⟨v', f2, r2⟩ := ry.get (List.getElem?_eq_getElem hj2)
    rw [e1] at f1; cases f1
    rw [e2] at f2; cases f2
    refine ⟨xs[j], ys[j], u, v, List.getElem?_eq_getElem hj1, List.getElem?_eq_getElem hj2, e1, e2, r1, r2, ?_, e3⟩
    unfold lay
    rw [if_neg (offS t (List.mem_of_getElem? hj)), look_at (z := (xs[j], ys[j])) nd hj (List.getElem?_zip_eq_some.mpr ⟨List.getElem?_eq_getElem hj1, List.getElem?_eq_getElem hj2⟩)]
  refine ⟨?_, kp, newS, fun j t hj => ?_⟩
  · refine I.call' (ch := []) rfl ⟨fun b o q _ _ _ => hk b o q, fun b o q _ _ _ => ⟨o.slots, hk b o q⟩, fun b o q n _ => ?_, fun b o q _ => ⟨o, hk b o q⟩, fun b xs q => kp b _ q, fun b o u q => kp b _ q, fun b ps q => ⟨#[], by rw [kp b _ q]; simp⟩⟩ (fun b u q => ?_) I.bare fun b z => by simp at z
    · obtain ⟨z1, z2⟩ := low b o q
      rw [off b z1 z2]; exact n
    · by_cases hb : b ∈ as
      · obtain ⟨j, hj⟩ := List.mem_iff_getElem?.mp hb
        obtain ⟨x, y, u', v', _, _, _, _, r1, r2, e3, e4⟩ := at_ j b hj
        rw [e3] at q; cases q
        exact ⟨by show 2 ≤ sizeLine; decide, [u', v'], .cons r1 (.cons r2 .nil), ⟨_, e4, rfl, _, rfl⟩⟩
      · by_cases hb2 : b = S
        · rw [hb2, eS] at q; cases q
          rw [hb2]
          refine ⟨by rw [List.length_map, hl]; exact hz, acc.toList, c, by rw [hacc]; exact LiI.vals_refs as, ?_⟩
          rw [Array.toArray_toList]; exact hS
        · rw [off b hb hb2] at q
          exact (I.hok b u q).stay (fun d v _ y => hk d v y) (fun d y => kp d _ y) fun d xs y => kp d _ y
  · obtain ⟨x, y, _, _, e1, e2, _, _, _, _, e3, _⟩ := at_ j t hj
    exact ⟨new t (List.mem_of_getElem? hj), offS t (List.mem_of_getElem? hj), x, y, e1, e2, e3⟩
theorem pe_listZip (hc : X.calm = true) (hg : Gl X "list") (hm : X.mg "list" = none) (hg2 : Gl X "zip") (hm2 : X.mg "zip" = none) (ha : PA X [e, e2] ta) (hs1 : starEach [.Call (.Name "zip" p2) [e, e2] [] cpos] X.env = (false, eval (.Call (.Name "zip" p2) [e, e2] [] cpos) X.env) :: starEach [] X.env := by rfl)
    (hs : starEach [e, e2] X.env = (false, eval e X.env) :: starEach [e2] X.env := by rfl) (hpl : (backTo cpos (starEach [e2] X.env)).any (·.1) = false := by rfl) :
    PE X (.Call (.Name "list" p) [.Call (.Name "zip" p2) [e, e2] [] cpos] [] pos) (tListZip X.K ta) := by
  refine ⟨fun pins s σ H Q I h => ?_⟩
  refine wpAny_Call_Name_kw (ld_blt (u := .type "list") I hg hm (by first | rfl | decide +kernel) ?_ (by decide) (by decide))
  refine PyProof.Rows.callWith_type1 ?_ hs1 rfl
  rw [hs1]
  show wpAny _ _ (spliced ((false, eval (.Call (.Name "zip" p2) [e, e2] [] cpos) X.env) :: backTo pos (starEach [] X.env))) _ _ s
  refine Calls.spliced_cons ?_
  refine Call_ (ld_blt I hg2 hm2 PyProof.Rows.boot_zip (PyProof.Rows.callWith_type1 (thn (ha.run cpos pins s σ H _ I h) fun us s1 ⟨vs, H1, I1, r1, q1⟩ => ?_) hs hpl))
  obtain ⟨a, b, xs, ys, ex, hx, hy, q⟩ := q1
  subst ex
  cases r1 with
  | cons r rr =>
    cases rr with
    | cons r' rr =>
      cases rr; cases r; cases r'
      obtain ⟨us, rx, ta, za⟩ := I1.tuple hx
      obtain ⟨vs, ry, tb, zb⟩ := I1.tuple hy
      have t1 : s1.heap.IsTuple a us.toArray := ta
      have t2 : s1.heap.IsTuple b vs.toArray := tb
      have la : a < s1.heap.objs.size := by obtain ⟨_, e, _⟩ := t1; exact Heap.lt_size e
      have lb : b < s1.heap.objs.size := by obtain ⟨_, e, _⟩ := t2; exact Heap.lt_size e
      refine RZ.call_zipT t1 t2 fun h' hz hTI hTO h1 h2 hsz hk => ?_
      refine Calls.spliced_nil ?_
      have g1 : Heap.IsTuple h' a us.toArray := by obtain ⟨o, e, f⟩ := t1; exact ⟨o, hk _ _ e, f⟩
      have g2 : Heap.IsTuple h' b vs.toArray := by obtain ⟨o, e, f⟩ := t2; exact ⟨o, hk _ _ e, f⟩
      have hmin : min us.toArray.size vs.toArray.size ≤ sizeLine := by have := rx.length; have := ry.length; simp only [List.size_toArray]; omega
      refine call_list_zip (s := { s1 with heap := h' }) (I1.ok.hd hc) (ktu_apart s1.heap.objs.size a b la lb) hmin hz hTI hTO h1 h2 g1 g2 fun h2 acc c as hk2 hS hl G hacc => ?_
      have hge : s1.heap.objs.size ≤ h'.objs.size := by rw [hsz]; exact Nat.le_add_right _ _
      have kk : ∀ c o, s1.heap.get? c = some o → h2.get? c = some o := fun c o e => by
        have hlt := Heap.lt_size e
        have ne : ∀ n : Nat, c ≠ s1.heap.objs.size + n := fun n => Nat.ne_of_lt (Nat.lt_of_lt_of_le hlt (Nat.le_add_right _ _))
        exact hk2 c o (ne 4) (ne 3) (Nat.ne_of_lt hlt) (ne 1) (hk c o e)
      have hl : as.length = min us.length vs.length := by simpa using hl
      obtain ⟨J, k1, k2, k3⟩ := laid (S := h'.objs.size) I1 hge kk rx ry hS (by simpa using hmin) hl G hacc
      exact ⟨.ref _, _, J, rfl, q _ _ as k1 k2 (by unfold lay; rw [if_pos rfl]) (by rw [hl, rx.length, ry.length]) k3⟩
end
end ZL
namespace Z
open PySem L2
section
variable {K : PySem.W.Frag} {τ : T} {μ μ1 μ2 : M} {H H1 H2 H' : Hp} {σ : L2.St} {Φ : D → M → Prop} {ta : TA}
theorem rels_by : ∀ {ds es : List D} {xs ys : List V} {ts : List Addr}, Rels K H xs ds → Rels K H ys es → ts.length = min xs.length ys.length → (∀ (j : Nat) (t : Addr), ts[j]? = some t → ∃ x y, xs[j]? = some x ∧ ys[j]? = some y ∧ H t = some (.tup [x, y])) → Rels K H (ts.map V.ref) (zipD ds es)
  | [], _, _, _, ts, .nil, _, hl, _ => by
    have e : ts = [] := List.length_eq_zero_iff.mp (by simpa using hl)
    subst e; unfold zipD; exact .nil
  | _ :: _, [], _, _, ts, .cons _ _, .nil, hl, _ => by
    have e : ts = [] := List.length_eq_zero_iff.mp (by simpa using hl)
    subst e; unfold zipD; exact .nil
  | d :: ds, f :: es, _, _, ts, .cons (v := x) (vs := xs) rx r1, .cons (v := y) (vs := ys) ry r2, hl, h => by
    match ts, hl, h with
    | [], hl, _ => simp only [List.length_cons, List.length_nil] at hl; omega
    | t :: ts, hl, h =>
      obtain ⟨x', y', e1, e2, e3⟩ := h 0 t rfl
      cases e1; cases e2
      unfold zipD
      exact .cons (.tup (.inl e3) (.cons rx (.cons ry .nil))) (rels_by r1 r2 (by simp only [List.length_cons] at hl; omega) fun j u hj => by
        obtain ⟨x', y', e1, e2, e3⟩ := h (j + 1) u (by simpa using hj)
        exact ⟨x', y', by simpa using e1, by simpa using e2, e3⟩)
theorem a_listZip (h : AA K ta τ μ fun ds μ1 => ∃ xs ys, ds = [.tup xs, .tup ys] ∧ ∀ p, μ1 p = none → Φ (.ref p) (μ1.set p (.lst (zipD xs ys)))) : AE K (ZL.tListZip K ta) τ μ Φ := fun σ H s c Q k => h σ H s c _ fun ds μ1 vs H1 f1 c1 r1 ⟨xs, ys, e, q⟩ => by
  subst e
  cases r1 with
  | cons r rr =>
    cases rr with
    | cons r' rr =>
      cases rr
      cases r with
      | @tup a us _ ha hr =>
        cases r' with
        | @tup b ws _ hb hr2 =>
          refine ⟨a, b, us, ws, rfl, ha.sq, hb.sq, fun H' p ts kp hp hS hl hat => ?_⟩
          have tx : Tx H1 H' := ⟨fun a xs e => kp _ _ e, fun a o xs e => kp _ _ e, fun a q e => kp _ _ e⟩
          have c2 : Z.Con K H' μ1 := fun x m e => by
            have r := c1 x m e
            have e2 : H' x = H1 x := by
              cases m <;> (obtain ⟨vs, h1, _⟩ := r; rw [h1]; exact kp _ _ h1)
            exact r.mono tx e2
          have np : μ1 p = none := c1.free hp
          refine k _ (μ1.set p (.lst (zipD xs ys))) _ H' (fun x o n e => ?_) (con_back c2 ⟨_, hS, rels_by (Rels.mono tx _ _ hr) (Rels.mono tx _ _ hr2) hl fun j t hj => (hat j t hj).2.2⟩) (.ref p) (q p np)
          obtain ⟨e1, n1⟩ := f1 x o n e
          exact ⟨kp _ _ e1, by rw [set_ne (fun z => by rw [z, hp] at e1; cases e1)]; exact n1⟩
end
end Z
namespace Z
open PySem L2
section
variable {K : PySem.W.Frag} {τ : T} {μ μ1 μ2 : M} {H H1 H2 H' : Hp} {σ : L2.St} {Φ : D → M → Prop} {ta tl te : TE} {tt tt1 : TT} {g g1 : TG} {wi wi1 : TI} {d e : D}
theorem cutD_all {ds : List D} {lo hi : Option Int} (h : HT.sIx ds.length 0 lo = 0 ∧ HT.sIx ds.length ds.length hi = ds.length) : cutD ds lo hi = ds := by
  unfold cutD
  rw [h.1, h.2]
  simp
theorem rs_tupA {ds : List D} {lo hi : Option Int} (q : Φ (.tup (cutD ds lo hi)) μ) : RS K (rSlA K) (.tup ds) lo hi μ Φ := fun H x c r Q k => by
  cases r with
  | @tup a xs _ ht hr =>
    refine ⟨a, xs, rfl, ht.sq, fun hw => ?_, fun hw p hp => k _ μ _ _ (fr_new hp) (con_new hp c) (.tup (.inl upd_same) (Rels.mono (tx_new hp) _ _ (hr.cut lo hi))) q⟩
    rw [hr.length] at hw
    rw [cutD_all hw] at q
    exact k _ μ _ _ Fr.refl c (.tup ht hr) q
theorem sl_tupAK {X : Cx} {K : PySem.W.Frag} (h : X.K = K) : SlR X (rSlA K) := by subst h; exact sl_tupA
theorem ro_catA {ds es : List D} (hz : ds.length + es.length ≤ sizeLine) (q : Φ (.tup (ds ++ es)) μ) : RO K (rCatA K) (.tup ds) (.tup es) μ Φ := fun H x y c r1 r2 Q k => by
  cases r1 with
  | @tup a xs _ ht hr =>
    cases r2 with
    | @tup b ys _ ht2 hr2 =>
      refine ⟨a, b, xs, ys, rfl, rfl, ht.sq, ht2.sq, by rw [hr.length, hr2.length]; exact hz, fun z => ?_, fun _ z => ?_, fun _ _ p hp => ?_⟩
      · subst z; cases hr; exact k _ μ _ _ Fr.refl c (.tup ht2 hr2) q
      · subst z; cases hr2; rw [List.append_nil] at q; exact k _ μ _ _ Fr.refl c (.tup ht hr) q
      · exact k _ μ _ _ (fr_new hp) (con_new hp c) (.tup (.inl upd_same) (Rels.mono (tx_new hp) _ _ (hr.append hr2))) q
theorem rc_minL {ns : List Int} {a : Addr} (h : μ a = some (.lst (ns.map D.int))) (h0 : 0 < ns.length) (q : ∀ m, m ∈ ns → (∀ y, y ∈ ns → m ≤ y) → Φ (.int m) μ) : RC K (rMin K) [.ref a] μ Φ := fun H xs c r1 Q k => by
  cases r1 with
  | cons r b =>
    cases r; cases b
    obtain ⟨xs, hx, hr⟩ := c _ _ h
    have e := rels_int hr
    subst e
    exact ⟨a, ns, rfl, SqL.of hx, h0, fun m h1 h2 => k _ μ _ H Fr.refl c (.int _) (q m h1 h2)⟩
theorem rc_maxL {ns : List Int} {a : Addr} (h : μ a = some (.lst (ns.map D.int))) (h0 : 0 < ns.length) (q : ∀ m, m ∈ ns → (∀ y, y ∈ ns → y ≤ m) → Φ (.int m) μ) : RC K (rMax K) [.ref a] μ Φ := fun H xs c r1 Q k => by
  cases r1 with
  | cons r b =>
    cases r; cases b
    obtain ⟨xs, hx, hr⟩ := c _ _ h
    have e := rels_int hr
    subst e
    exact ⟨a, ns, rfl, SqL.of hx, h0, fun m h1 h2 => k _ μ _ H Fr.refl c (.int _) (q m h1 h2)⟩
theorem walk_ZL {a b : Addr} {vs ws : List V} {ds es : List D} (hr : Rels K H1 vs ds) (hr2 : Rels K H1 ws es) : WalkD K (Itz K a b) (zipD ds es) (fun c => c = a ∨ c = b) (fun H' => (H' a = some (.lst vs) ∧ Rels K H' vs ds) ∧ H' b = some (.lst ws) ∧ Rels K H' ws es) where
  keep := fun H H' μ μ' c o g f => ⟨⟨(f a _ (o a (.inl rfl)) g.1.1).1, Rels.mono (f.tx c) _ _ g.1.2⟩, (f b _ (o b (.inr rfl)) g.2.1).1, Rels.mono (f.tx c) _ _ g.2.2⟩
  oo := fun _ c g h => by
    rcases h with h | h
    · subst h; exact ⟨_, g.1.1⟩
    · subst h; exact ⟨_, g.2.1⟩
  go := fun i H' hi g => by
    rw [zipD_len] at hi
    have hv : i < vs.length := by rw [hr.length]; omega
    have hw : i < ws.length := by rw [hr2.length]; omega
    exact ⟨vs, ws, vs[i], ws[i], SqL.of g.1.1, SqL.of g.2.1, List.getElem?_eq_getElem hv, List.getElem?_eq_getElem hw⟩
  stop := fun i H' hi g => by
    rw [zipD_len] at hi
    refine ⟨vs, ws, SqL.of g.1.1, SqL.of g.2.1, ?_⟩
    rw [hr.length, hr2.length]
    omega
  yld := fun i H' v H2 hi g y => by
    obtain ⟨T0, x, y, e, hT, e2, q1, q2⟩ := y
    obtain ⟨x', y', h1, h2, h3⟩ := zipD_get hi
    obtain ⟨d1, k1, r1⟩ := g.1.2.getV (q1 vs (SqL.of g.1.1))
    obtain ⟨d2, k2, r2⟩ := g.2.2.getV (q2 ws (SqL.of g.2.1))
    rw [h1] at k1; cases k1
    rw [h2] at k2; cases k2
    refine ⟨_, h3, ?_, .inr ⟨T0, _, hT, e2⟩⟩
    subst e e2
    exact .tup (.inl upd_same) (.cons (Rel.mono (tx_new hT) _ _ r1) (.cons (Rel.mono (tx_new hT) _ _ r2) .nil))
variable {Ψ : List D → M → (M → M) → Prop}
theorem ai_ZL {ta : TA} (h : AA K ta τ μ fun ds μ1 => ∃ a b xs ys, ds = [.ref a, .ref b] ∧ a ≠ b ∧ μ1 a = some (.lst xs) ∧ μ1 b = some (.lst ys) ∧ Ψ (zipD xs ys) ((μ1.del a).del b) (fun μ' => (μ'.set b (.lst ys)).set a (.lst xs))) : AI K (RZ.iZipA K ta) τ μ Ψ := fun σ H s c R k => h σ H s c _ fun ds μ1 vs H1 f1 c1 r1 ⟨a, b, xs, ys, e, hne, ha, hb, q⟩ => by
  subst e
  cases r1 with
  | cons r rr =>
    cases rr with
    | cons r' rr =>
      cases rr; cases r; cases r'
      obtain ⟨us, hx, hr⟩ := c1 a _ ha
      obtain ⟨ws, hy, hr2⟩ := c1 b _ hb
      have cd : Z.Con K H1 ((μ1.del a).del b) := (c1.sub del_sub).sub del_sub
      have da : ((μ1.del a).del b) a = none := by rw [del_ne hne, del_same]
      have db : ((μ1.del a).del b) b = none := del_same
      refine ⟨a, b, us, ws, rfl, .inl ⟨SqL.of hx, SqL.of hy, k _ _ _ _ H1 _ _ (f1.tx c) cd (walk_ZL hr hr2) ⟨⟨hx, hr⟩, hy, hr2⟩ (fun x z => by rcases z with z | z <;> rw [z] <;> assumption) ⟨fun μ' H' g => ?_, fun μ' H' g c' => ?_, fun μ' p hp n => ?_, fun x o n e => (f1 x o n e).1⟩ q⟩⟩
      · intro x o n e
        obtain ⟨e1, n1⟩ := f1 x o n e
        have xa : x ≠ a := fun z => by rw [z, ha] at n1; cases n1
        have xb : x ≠ b := fun z => by rw [z, hb] at n1; cases n1
        obtain ⟨e2, n2⟩ := g x o (by rw [del_ne xb, del_ne xa]; exact n1) e1
        exact ⟨e2, by rw [set_ne xa, set_ne xb]; exact n2⟩
      · exact con_back (m := .lst xs) (con_back (m := .lst ys) c' ⟨ws, (g b _ db hy).1, Rels.mono (g.tx cd) _ _ hr2⟩) ⟨us, (g a _ da hx).1, Rels.mono (g.tx cd) _ _ hr⟩
      · have pa : p ≠ a := fun z => by rw [z, hx] at hp; cases hp
        have pb : p ≠ b := fun z => by rw [z, hy] at hp; cases hp
        rw [set_ne pa, set_ne pb]; exact n
end
end Z
namespace Z
open PySem L2
/-- plain, and n deep at most -/
structure OkN (n : Nat) (d : D) : Prop where
  p : D.plain d = true
  l : (D.py d).canLay0 = true
  d : (D.py d).depth ≤ n
theorem OkN.mono {n m : Nat} {d : D} (h : OkN n d) (l : n ≤ m) : OkN m d := ⟨h.p, h.l, Nat.le_trans h.d l⟩
theorem OkN.ok {n : Nat} {d : D} (h : OkN n d) (l : n ≤ 64) : D.ok d = true := by
  unfold D.ok SeqAt.shaped
  rw [h.p, h.l, decide_eq_true (Nat.le_trans h.d l)]
  rfl
theorem okn_int {i : Int} : OkN 0 (.int i) := ⟨by simp only [D.plain], by simp only [D.py, PyData.canLay0], by simp only [D.py, PyData.depth]; exact Nat.le_refl _⟩
theorem okn_all {n : Nat} : ∀ {ds : List D}, (∀ x ∈ ds, OkN n x) → D.plains ds = true ∧ PyData.canLayAll0 (D.pys ds) = true ∧ PyData.depthAll (D.pys ds) ≤ n
  | [], _ => ⟨by simp only [D.plains], by simp only [D.pys, PyData.canLayAll0], by simp only [D.pys, PyData.depthAll]; exact Nat.zero_le _⟩
  | x :: ds, h => by
    obtain ⟨h1, h2, h3⟩ := okn_all (ds := ds) fun y hy => h y (List.mem_cons_of_mem _ hy)
    have hx := h x List.mem_cons_self
    refine ⟨by simp only [D.plains, hx.p, h1, Bool.and_self], by simp only [D.pys, PyData.canLayAll0, hx.l, h2, Bool.and_self], ?_⟩
    simp only [D.pys, PyData.depthAll]
    exact Nat.max_le.mpr ⟨hx.d, h3⟩
theorem okn_tup {n : Nat} {ds : List D} (h : ∀ x ∈ ds, OkN n x) : OkN (n + 1) (.tup ds) := by
  obtain ⟨h1, h2, h3⟩ := okn_all h
  exact ⟨by simp only [D.plain]; exact h1, by simp only [D.py, PyData.canLay0]; exact h2, by simp only [D.py, PyData.depth]; omega⟩
theorem okn_pt {x y : Int} : OkN 1 (pt x y) := okn_tup fun z hz => by
  simp only [List.mem_cons, List.not_mem_nil, or_false] at hz
  rcases hz with rfl | rfl <;> exact okn_int
theorem eqv_self {n : Nat} {d : D} (h : OkN n d) : D.eqv d d = true := SeqAt.eqv_refl _ h.l
end Z
namespace Z
open PySem L2
section
variable {K : PySem.W.Frag} {μ μ' : M} {Φ : D → M → Prop} {a b l : Addr} {X Y : MO}
theorem sb_own (h : SubB b μ μ') (hn : μ l = none) : SubB b μ (μ'.set l Y) := fun a m n e => by
  rw [set_ne (fun z => by subst z; rw [hn] at e; cases e)]
  exact h a m n e
theorem set_del {p : Addr} {m : MO} (h : μ p = none) : (μ.set p m).del p = μ := by
  funext x
  by_cases hx : x = p
  · subst hx; rw [del_same, h]
  · rw [del_ne hx, set_ne hx]
theorem cut1 {ds : List D} : cutD ds (some 1) none = ds.drop 1 := by
  unfold cutD
  have e1 : HT.sIx ds.length 0 (some 1) = min 1 ds.length := HT.sIx_nat ds.length 0 1
  rw [e1, HT.sIx_none]
  rcases ds with _ | ⟨x, ds⟩
  · simp
  · have e2 : min 1 (x :: ds).length = 1 := by simp only [List.length_cons]; omega
    rw [e2]
    simp
/-- a list of the store against an empty one -/
theorem ro_neNil {n : Nat} {ds : List D} (h1 : μ a = some (.lst ds)) (h2 : μ b = some (.lst [])) (ok : ∀ x ∈ ds, OkN n x) (hn : n < 64) (q : Φ (.bl (!ds.isEmpty)) μ) : RO K (rNeD K) (.ref a) (.ref b) μ Φ := fun H x y c r1 r2 Q k => by
  cases r1; cases r2
  obtain ⟨xs, hx, hr⟩ := c a _ h1
  obtain ⟨ys, hy, hr2⟩ := c b _ h2
  obtain ⟨p1, p2, p3⟩ := okn_all ok
  cases hr2
  have e : PyData.eqv (.list (D.pys ds)) (.list (D.pys [])) = ds.isEmpty := by
    cases ds <;> simp [D.pys, PyData.eqv, PyData.eqvAll]
  refine ⟨.list (D.pys ds), .list [], .lst (SqL.of hx) (Rels.dp _ _ hr p1), .lst (SqL.of hy) .nil, ?_, ?_, ?_⟩
  · unfold SeqAt.shaped
    rw [Bool.and_eq_true]
    exact ⟨by simp only [PyData.canLay0]; exact p2, decide_eq_true (by simp only [PyData.depth]; omega)⟩
  · rfl
  · have e' : PyData.eqv (.list (D.pys ds)) (.list []) = ds.isEmpty := by simpa [D.pys] using e
    rw [e']
    exact k _ μ _ H Fr.refl c (.bl _) q
end
end Z
namespace PySem.HandSPX
open PySem PySem.Spec PySem.Calls
section
variable {prog : Program} {w : World} {A : Around} {E : Value → Shared → Prop} {h : Heap} {g : Array GenState} {d : Drawn} {t : Nat} {os : OsState} {C : Addr} {B newId initId : String} {bmB rest : List Value}
/-- the class of the text at C: its objects are made by newId, B is of its chain, the two classes with fields of their own are not -/
structure OwnAt (h : Heap) (C : Addr) (B newId : String) : Prop where
  obj : ∃ (nm q : Str) (N : Addr) (bs bm : List Value) (hdct : Bool) (sn : List Str) (sub : List Value) (ab : Bool) (col : Option Bool) (dd : Option Addr) (k0 k1 k2 k3 k5 : Option Value), h.get? C = some (excClassObj nm q C N bs bm hdct sn sub ab col dd k0 k1 k2 k3 k5 newId) ∧
    (Value.ref C :: bm).contains (.type B) = true ∧ (Value.ref C :: bm).contains (.type "AttributeError") = false ∧ (Value.ref C :: bm).contains (.type "NameError") = false
/-- what newId lays: the tuple of the arguments, then the object -/
theorem OwnAt.laid (c : OwnAt h C B newId) (F : ExcBaseFacts B newId initId bmB) (few : rest.length ≤ sizeLine) {R : Result → Shared → Prop}
    (q : R (.ok (.ret (.ref (h.objs.size + 1)))) ⟨(h.push (W.kdv_tup rest)).push (excO C h.objs.size), g, d, t, os⟩) : codeAny (model prog w) A (.builtin newId ⟨.ref C :: rest, []⟩) R ⟨h, g, d, t, os⟩ := by
  obtain ⟨_, _, _, _, _, _, _, _, _, _, _, _, _, _, _, _, at_, isB, notA, notN⟩ := c.obj
  have ends := F.ends
  apply codeAny_builtinAt F.entry
  unfold Builtin.«BaseException.__new__»
  apply wpAt_bind
  show wpAt _ _ _ (stack >>= _) _ _ _
  apply wpAt_bind
  apply wpAt_stack
  intro top below
  apply wpAt_of_wpAny
  wp_walk
  apply wpAt_of_wpAny
  rw [F.owner]
  repeat' first
    | with_reducible refine wpAny_madeHere_exc F.canon at_ ?_
    | with_reducible refine wpAny_loadPart_at at_ ?_
    | (with_reducible refine wpAny_isSubtype_exc at_ ?_; simp only [isB, notA, notN])
    | wp_step
  rw [show h.objs.size + 1 = (h.push (W.kdv_tup rest)).objs.size from (Heap.size_push ..).symm] at q
  exact q
end
end PySem.HandSPX
namespace XO
open PySem PySem.Spec PyProof.Rows L2
open Builtin Builtin.ObjectAttr
abbrev tlVE : List Value := [.type "ValueError", .type "Exception", .type "BaseException", .type "object"]
end XO
namespace Z
open PySem L2
/-- o.m(..) where it may let an exception out -/
def tMethX (C : Addr) (m : Str) (sp : Sp) (E : L2.St → XK) (ta : TE) (t : TA) : TE := fun σ H Q => ta σ H fun x H1 => ∃ a dx fs, x = .ref a ∧ H1 a = some (.ins C dx fs) ∧ fs.lookup m = none ∧ t σ H1 fun vs H2 => sp (x :: vs) H2 Q (E σ)
abbrev XW := Str → Option Addr → M → Prop
/-- P args store wish out -/
abbrev PT4 := List D → M → (D → M → Prop) → XW → Prop
def spX (K : PySem.W.Frag) (cn : Str → Option Value) (P : PT4) : Sp := fun vs H Q E => ∃ ds μ Φ Ξ, Rels K H vs ds ∧ Z.Con K H μ ∧ P ds μ Φ Ξ ∧ (∀ d μ' v H', Fr μ μ' H H' → Z.Con K H' μ' → Rel K H' v d → Φ d μ' → Q v H') ∧
  ∀ x dx μ' cls H', cn x = some cls → Fr μ μ' H H' → Z.Con K H' μ' → Ξ x dx μ' → E cls dx H'
section
variable {K : PySem.W.Frag} {τ : T} {μ μ1 μ2 : M} {H H1 H2 : Hp} {σ : L2.St} {Φ Ψ : D → M → Prop} {ta tb tc te : TE} {t u : TT} {x y z d e : D} {N : AEnds} {ts us : TS} {P : PT4} {P3 : PT3} {E : XK} {g : TG} {cn : Str → Option Value}
theorem spX_len {vs : List V} {Q : VK} {n : Nat} (h : spX K cn P vs H Q E) (hn : ∀ ds μ Φ Ξ, P ds μ Φ Ξ → ds.length = n) : vs.length = n := by
  obtain ⟨ds, μ, Φ, Ξ, r, _, p, _⟩ := h
  rw [r.length]; exact hn _ _ _ _ p
abbrev endX (cn : Str → Option Value) (E : XK) (Φ : D → M → Prop) (Ξ : XW) : AEnds := { nx := fun _ μ' => Φ .non μ', rt := Φ, W := fun cls d _ H => E cls d H, cn := cn, xs := fun x dx _ μ' => Ξ x dx μ' }
theorem body_okX {Ns : List Str} {vs : List V} {Q : VK} (h : spX K cn P vs H Q E) (hb : ∀ ds μ Φ Ξ, P ds μ Φ Ξ → AS K ts (startD Ns.length ds) μ (endX cn E Φ Ξ)) :
    ts { nx := fun _ H' => Q .non H', rt := Q } (L2.start Ns vs) H := by
  obtain ⟨ds, μ, Φ, Ξ, r, c, p, k, kx⟩ := h
  exact hb ds μ Φ Ξ p _ H (slots_start r) c _ ⟨fun _ μ' _ H' f c' _ q => k .non μ' .non H' f c' .non q, fun d μ' v H' f c' r' q => k d μ' v H' f c' r' q, fun _ _ _ _ _ _ _ q => q.elim, fun _ _ _ _ _ _ _ q => q.elim,
    fun x dx _ μ' cls _ H' e f c' _ q => kx x dx μ' cls H' e f c' q⟩
/-- a call that lets nothing out here -/
theorem a_callX {ta : TA} (h : AA K ta τ μ fun ds μ1 => P ds μ1 Φ fun _ _ _ => False) : AE K (tCall (spX K cn P) [] E ta) τ μ Φ := fun σ H s c Q k =>
  h σ H s c _ fun ds μ1 vs H1 f1 c1 r1 p => by
    show spX K cn P (vs ++ []) H1 Q E
    rw [List.append_nil]
    exact ⟨ds, μ1, Φ, _, r1, c1, p, fun d μ' v H' f c' r q => k d μ' v H' (f1.trans f) c' r q, fun _ _ _ _ _ _ _ _ q => q.elim⟩
def AEX (K : PySem.W.Frag) (t : TE) (τ : T) (μ : M) (N : AEnds) (Φ : D → M → Prop) : Prop :=
  ∀ σ H, Slots K H τ σ → Con K H μ → ∀ Q : VK, (∀ d μ' v H', Fr μ μ' H H' → Con K H' μ' → Rel K H' v d → Φ d μ' → Q v H') →
    (∀ x dx μ' cls H', N.cn x = some cls → Fr μ μ' H H' → Con K H' μ' → N.xs x dx τ μ' → N.W cls dx σ H') → t σ H Q
theorem x_of {E' : Ends} (k : EndsOk K N μ H E') (s : Slots K H τ σ) (c : Con K H μ) : ∀ x dx μ' cls H', N.cn x = some cls → Fr μ μ' H H' → Con K H' μ' → N.xs x dx τ μ' → N.W cls dx σ H' :=
  fun x dx μ' cls H' e f c' q => k.wx x dx τ μ' cls σ H' e f c' (s.mono (f.tx c)) q
theorem s_dropX (h : AEX K te τ μ N fun _ μ' => N.nx τ μ') : AS K (tDrop te) τ μ N := fun σ H s c E k =>
  h σ H s c _ (fun d μ' v H' f c' r p => k.nx τ μ' σ H' f c' (s.mono (f.tx c)) p) (x_of k s c)
theorem s_asgX (h : AEX K te τ μ N fun d μ' => AG K g d τ μ' N.nx) : AS K (tAsg te g) τ μ N := fun σ H s c E k =>
  h σ H s c _ (fun d μ' v H' f c' r p => p σ H' v (s.mono (f.tx c)) c' r _ fun τ2 μ2 σ2 H2 f2 c2 s2 q => k.nx τ2 μ2 σ2 H2 (f.trans f2) c2 s2 q) (x_of k s c)
theorem x_call {ta : TA} (h : AA K ta τ μ fun ds μ1 => P ds μ1 Φ fun x dx μ' => N.xs x dx τ μ') : AEX K (tCallS (spX K N.cn P) (WE N.W) ta) τ μ N Φ := fun σ H s c Q k kx =>
  h σ H s c _ fun ds μ1 vs H1 f1 c1 r1 p => ⟨ds, μ1, Φ, _, r1, c1, p, fun d μ' v H' f c' r q => k d μ' v H' (f1.trans f) c' r q, fun x dx μ' cls H' e f c' q => kx x dx μ' cls H' e (f1.trans f) c' q⟩
theorem look_none {H1 : Hp} {m : Str} : ∀ {vs : List (Str × V)} {fs : List (Str × D)}, RelKV K H1 vs fs → fs.lookup m = none → vs.lookup m = none := by
  intro vs fs r
  induction r with
  | nil => intro _; rfl
  | cons a _ ih =>
    rename_i p q ps qs _
    obtain ⟨e1, _⟩ := a
    intro h
    rw [List.lookup_cons] at h ⊢
    rw [e1]
    split at h
    · cases h
    · exact ih h
/-- o.m(..), what the instance is made of kept -/
theorem a_methX {C : Addr} {m : Str} {ta : TA} (h : AE K te τ μ fun o μ1 => ∃ a dx fs, o = .ref a ∧ μ1 a = some (.ins C dx fs) ∧ fs.lookup m = none ∧ AA K ta τ μ1 fun ds μ2 => P (o :: ds) μ2 Φ fun _ _ _ => False) :
    AE K (tMeth C m (spX K cn P) [] E te ta) τ μ Φ := fun σ H s c Q k =>
  h σ H s c _ fun o μ1 v H1 f1 c1 r1 ⟨a, dx, fs, e, ha, hm, p1⟩ => by
    subst e
    cases r1
    obtain ⟨vs, hv, hr⟩ := c1 a _ ha
    refine ⟨a, dx, vs, rfl, hv, look_none hr hm, p1 σ H1 (s.mono (f1.tx c)) c1 _ fun ds μ2 us H2 f2 c2 r2 p => ?_⟩
    rw [List.append_nil]
    exact ⟨.ref a :: ds, μ2, Φ, _, .cons (.ref a) r2, c2, p, fun d μ' v H' f c' r q => k d μ' v H' ((f1.trans f2).trans f) c' r q, fun _ _ _ _ _ _ _ _ q => q.elim⟩
theorem x_meth {C : Addr} {m : Str} {ta : TA} (h : AE K te τ μ fun o μ1 => ∃ a dx fs, o = .ref a ∧ μ1 a = some (.ins C dx fs) ∧ fs.lookup m = none ∧ AA K ta τ μ1 fun ds μ2 => P (o :: ds) μ2 Φ fun x dx μ' => N.xs x dx τ μ') :
    AEX K (tMethX C m (spX K N.cn P) (WE N.W) te ta) τ μ N Φ := fun σ H s c Q k kx =>
  h σ H s c _ fun o μ1 v H1 f1 c1 r1 ⟨a, dx, fs, e, ha, hm, p1⟩ => by
    subst e
    cases r1
    obtain ⟨vs, hv, hr⟩ := c1 a _ ha
    exact ⟨a, dx, vs, rfl, hv, look_none hr hm, p1 σ H1 (s.mono (f1.tx c)) c1 _ fun ds μ2 us H2 f2 c2 r2 p =>
      ⟨.ref a :: ds, μ2, Φ, _, .cons (.ref a) r2, c2, p, fun d μ' v H' f c' r q => k d μ' v H' ((f1.trans f2).trans f) c' r q, fun x dx μ' cls H' e f c' q => kx x dx μ' cls H' e ((f1.trans f2).trans f) c' q⟩⟩
end
/-- a def that may let an exception out -/
structure DefX (P : Program) (w : World) (K : PySem.W.Frag) (mg : Str → Option Value) (base : Heap) (x : Str) (ps : List Str) (k : Nat) (sp : Sp) : Prop where
  ex : ∃ f fd, FnOk P w K mg base (L2.CX P w) k f fd ps sp ∧ mg x = some (.ref f) ∧ PySem.W.keepIn K (.ref f) = true ∧ Binds K fd ps []
section
variable {X : Cx} {k : Nat} {ps : List Str} {sp : Sp} {x m : Str} {C : Addr} {p pos apos : Pos} {o e : Expr} {es : List Expr} {to : TE} {t : TA} {W : WX}
/-- .. called where it lets nothing out -/
theorem pe_defN (G : DefX X.prog X.w X.K X.mg X.base x ps k sp) (hr : Room k X.A) (hg : Gl X x)
    (ha : PA X (e :: es) t) (hdb : (x == ("__debug__" : Str)) = false := by decide) (he : starEach (e :: es) X.env = (false, eval e X.env) :: starEach es X.env := by rfl) (hpl : (backTo pos (starEach es X.env)).any (·.1) = false := by rfl) :
    PE X (.Call (.Name x p) (e :: es) [] pos) (tCall sp [] E0 t) := by
  obtain ⟨f, fd, F, hm, hk, hb⟩ := G.ex
  exact pe_call F hr hg hm hk hb .nil passL ha hdb he hpl
end
end Z
namespace Z
open PySem L2
def kD : Key → D
  | .inl i => .int i
  | .inr s => .str s
abbrev kT (k : List Key) : D := .tup (k.map kD)
section
variable {κ : Type} [DecidableEq κ]
def valD (kvs : List (κ × D)) (k : κ) : Option D := (kvs.find? fun kv => decide (kv.1 = k)).map (·.2)
def putKD (kvs : List (κ × D)) (k : κ) (v : D) : List (κ × D) := if (valD kvs k).isSome = true then kvs.map fun kv => if kv.1 = k then (kv.1, v) else kv else kvs ++ [(k, v)]
theorem valD_cons {p : κ × D} {r : List (κ × D)} {k : κ} : valD (p :: r) k = if p.1 = k then some p.2 else valD r k := by
  unfold valD
  by_cases h : p.1 = k
  · rw [if_pos h]; simp [List.find?_cons, h]
  · rw [if_neg h]; simp [List.find?_cons, h]
theorem putKD_new {r : List (κ × D)} {k : κ} {v : D} (h : valD r k = none) : putKD r k v = r ++ [(k, v)] := by
  unfold putKD; rw [h]; rfl
variable {K : PySem.W.Frag} {H : Hp}
theorem kv_val {vs : List (κ × V)} {kvs : List (κ × D)} (r : RelKV K H vs kvs) (k : κ) : (valV vs k = none ∧ valD kvs k = none) ∨ ∃ v d, valV vs k = some v ∧ valD kvs k = some d ∧ Rel K H v d := by
  induction r with
  | nil => exact .inl ⟨rfl, rfl⟩
  | cons a _ ih =>
    rename_i p q ps qs _
    obtain ⟨e, r⟩ := a
    rw [valD_cons]
    by_cases h : p.1 = k
    · rw [valV_pos h, if_pos (e.symm.trans h)]
      exact .inr ⟨_, _, rfl, rfl, r⟩
    · rw [valV_neg h, if_neg (fun z => h (e.trans z))]
      exact ih
theorem kv_isSome {vs : List (κ × V)} {kvs : List (κ × D)} (r : RelKV K H vs kvs) (k : κ) : (valV vs k).isSome = (valD kvs k).isSome := by
  rcases kv_val r k with ⟨a, b⟩ | ⟨v, d, a, b, _⟩ <;> rw [a, b] <;> rfl
theorem kv_len {vs : List (κ × V)} {kvs : List (κ × D)} (r : RelKV K H vs kvs) : vs.length = kvs.length := Paired.length r
theorem kv_app {vs ws : List (κ × V)} {kvs lws : List (κ × D)} (r : RelKV K H vs kvs) (r2 : RelKV K H ws lws) : RelKV K H (vs ++ ws) (kvs ++ lws) := by
  induction r with
  | nil => exact r2
  | cons a _ ih => exact .cons a ih
theorem kv_map (k : κ) {v : V} {d : D} (rv : Rel K H v d) : ∀ {vs : List (κ × V)} {kvs : List (κ × D)}, RelKV K H vs kvs → RelKV K H (vs.map fun kv => if kv.1 = k then (kv.1, v) else kv) (kvs.map fun kv => if kv.1 = k then (kv.1, d) else kv)
  | [], [], .nil => .nil
  | (g, x) :: vs, (g', y) :: kvs, .cons a b => by
    obtain ⟨e, r⟩ := a
    have e : g = g' := e
    subst e
    rw [List.map_cons, List.map_cons]
    refine .cons ?_ (kv_map k rv b)
    dsimp only
    by_cases h : g = k
    · rw [if_pos h, if_pos h]; exact ⟨rfl, rv⟩
    · rw [if_neg h, if_neg h]; exact ⟨rfl, r⟩
theorem kv_put {vs : List (κ × V)} {kvs : List (κ × D)} (r : RelKV K H vs kvs) (k : κ) {v : V} {d : D} (rv : Rel K H v d) : RelKV K H (putK vs k v) (putKD kvs k d) := by
  have hs := kv_isSome r k
  unfold putK putKD
  rw [valV_any, hs]
  split
  · exact kv_map k rv r
  · exact kv_app r (.cons ⟨rfl, rv⟩ .nil)
end
section
variable {K : PySem.W.Frag} {τ : T} {μ μ1 μ2 : M} {H H1 H2 : Hp} {σ : L2.St} {Φ Ψ : D → M → Prop} {ta tb td te tv ty : TE} {tt : TT} {x y z d e : D} {N : AEnds} {ts us : TS}
theorem rel_key {v : V} {k : Key} (r : Rel K H v (kD k)) : v = kV k := by
  cases k with
  | inl i => cases r; rfl
  | inr s => cases r; rfl
theorem rel_kV (k : Key) : Rel K H (kV k) (kD k) := by
  cases k with
  | inl i => exact .int i
  | inr s => exact .str s
theorem rels_keys : ∀ {k : List Key} {vs : List V}, Rels K H vs (k.map kD) → vs = k.map kV
  | [], _, .nil => rfl
  | k :: ks, _, .cons a b => by rw [List.map_cons, rel_key a, rels_keys b]
theorem rels_kV : ∀ (k : List Key), Rels K H (k.map kV) (k.map kD)
  | [] => .nil
  | k :: ks => .cons (rel_kV k) (rels_kV ks)
theorem rel_kT {v : V} {k : List Key} (r : Rel K H v (kT k)) : ∃ b, v = .ref b ∧ H b = some (.tup (k.map kV)) := by
  cases r with
  | tup h hr =>
    cases h with
    | inl h => exact ⟨_, rfl, by rw [h, rels_keys hr]⟩
/-- {} -/
theorem a_dnewT (h : ∀ p, μ p = none → Φ (.ref p) (μ.set p (.dT []))) : AE K tDNewT τ μ Φ := fun σ H s c Q k p hp =>
  k _ _ _ _ (fr_put hp) (con_put (m := .dT []) hp c ⟨[], upd_same, .nil⟩) (.ref p) (h p (c.free hp))
/-- what the dict at a holds at the key y, by the store -/
def Dg (μ : M) (a : Addr) (y : D) (o : Option D) : Prop :=
  (∃ kvs k, μ a = some (.dK kvs) ∧ y = kD k ∧ o = valD kvs k) ∨ (∃ kvs k, μ a = some (.dT kvs) ∧ y = kT k ∧ o = valD kvs k) ∨ ∃ od us kvs k, μ a = some (.fT od us kvs) ∧ y = kT k ∧ o = valD kvs k
theorem dg_ok {v : V} {a : Addr} {o : Option D} (c : Con K H μ) (g : Dg μ a y o) (r : Rel K H v y) : ∃ p, DGet H a v p ∧ p.isSome = o.isSome ∧ ∀ d, o = some d → ∃ u, p = some u ∧ Rel K H u d := by
  have fin : ∀ {κ : Type} [DecidableEq κ] {vs : List (κ × V)} {kvs : List (κ × D)} (k : κ), RelKV K H vs kvs → o = valD kvs k → (valV vs k).isSome = o.isSome ∧ ∀ d, o = some d → ∃ u, valV vs k = some u ∧ Rel K H u d := by
    intro κ _ vs kvs k rr e
    subst e
    refine ⟨kv_isSome rr k, fun d e => ?_⟩
    rcases kv_val rr k with ⟨_, b⟩ | ⟨v', d', a', b, r'⟩
    · rw [b] at e; cases e
    · rw [b] at e; cases e; exact ⟨v', a', r'⟩
  rcases g with ⟨kvs, k, ha, ey, eo⟩ | ⟨kvs, k, ha, ey, eo⟩ | ⟨od, us, kvs, k, ha, ey, eo⟩
  · subst ey
    obtain ⟨vs, hv, hr⟩ := c a _ ha
    rw [rel_key r]
    exact ⟨_, .inl ⟨vs, k, .inl hv, rfl, rfl⟩, fin k hr eo⟩
  · subst ey
    obtain ⟨vs, hv, hr⟩ := c a _ ha
    obtain ⟨b, e, hb⟩ := rel_kT r
    subst e
    exact ⟨_, .inr ⟨vs, k, b, .inl hv, rfl, hb, rfl⟩, fin k hr eo⟩
  · subst ey
    obtain ⟨vs, hv, hr, _⟩ := c a _ ha
    obtain ⟨b, e, hb⟩ := rel_kT r
    subst e
    exact ⟨_, .inr ⟨vs, k, b, .inr ⟨od, hv⟩, rfl, hb, rfl⟩, fin k hr eo⟩
theorem a_dnotin (h : AE K ty τ μ fun y μ1 => AE K td τ μ1 fun o μ2 => ∃ a p, o = .ref a ∧ Dg μ2 a y p ∧ Φ (.bl (!p.isSome)) μ2) : AE K (tDNotIn ty td) τ μ Φ := fun σ H s c Q k =>
  h σ H s c _ fun y μ1 w H1 f1 c1 r1 p1 => p1 σ H1 (s.mono (f1.tx c)) c1 _ fun o μ2 v H2 f2 c2 r2 ⟨a, p, e, g, q⟩ => by
    subst e
    cases r2
    obtain ⟨p', g', hs, _⟩ := dg_ok c2 g (Rel.mono (f2.tx c1) _ _ r1)
    refine ⟨a, p', rfl, g', ?_⟩
    rw [hs]
    exact k _ μ2 _ H2 (f1.trans f2) c2 (.bl _) q
/-- d[y] = v -/
theorem s_dput (h : AE K tv τ μ fun v μ1 => AE K td τ μ1 fun o μ2 => AE K ty τ μ2 fun y μ3 => ∃ a, o = .ref a ∧
      ((∃ kvs k, μ3 a = some (.dT kvs) ∧ y = kT k ∧ kvs.length < sizeLine ∧ N.nx τ (μ3.set a (.dT (putKD kvs k v)))) ∨ ∃ kvs k, μ3 a = some (.dK kvs) ∧ y = kD k ∧ kvs.length < sizeLine ∧ N.nx τ (μ3.set a (.dK (putKD kvs k v))))) :
    AS K (sDPut td ty tv) τ μ N := fun σ H s c E k =>
  h σ H s c _ fun v μ1 w H1 f1 c1 r1 p1 => p1 σ H1 (s.mono (f1.tx c)) c1 _ fun o μ2 u H2 f2 c2 r2 p2 => p2 σ H2 (s.mono ((f1.trans f2).tx c)) c2 _ fun y μ3 x H3 f3 c3 r3 ⟨a, e, q⟩ => by
    subst e
    cases r2
    have fa := (f1.trans f2).trans f3
    have rw' : Rel K H3 w v := Rel.mono ((f2.trans f3).tx c1) _ _ r1
    rcases q with ⟨kvs, kk, ha, ey, hl, q⟩ | ⟨kvs, kk, ha, ey, hl, q⟩
    · subst ey
      obtain ⟨vs, hv, hr⟩ := c3 a _ ha
      obtain ⟨b, eb, hb⟩ := rel_kT r3
      subst eb
      have fr := fr_mut (H := H3) (o := .dT (putK vs kk w)) (m' := .dT (putKD kvs kk v)) ha
      have tx := tx_mut (o := .dT (putK vs kk w)) c3 ha
      exact ⟨a, _, rfl, .inr ⟨vs, kk, b, hv, rfl, hb, by rw [kv_len hr]; exact hl, rfl⟩, k.nx τ _ σ _ (fa.trans fr) (con_mut c3 ha ⟨_, upd_same, kv_put (RelKV.mono tx hr) kk (Rel.mono tx _ _ rw')⟩) (s.mono ((fa.trans fr).tx c)) q⟩
    · subst ey
      obtain ⟨vs, hv, hr⟩ := c3 a _ ha
      have ek := rel_key r3
      subst ek
      have fr := fr_mut (H := H3) (o := .dK (putK vs kk w)) (m' := .dK (putKD kvs kk v)) ha
      have tx := tx_mut (o := .dK (putK vs kk w)) c3 ha
      exact ⟨a, _, rfl, .inl ⟨vs, kk, hv, rfl, by rw [kv_len hr]; exact hl, rfl⟩, k.nx τ _ σ _ (fa.trans fr) (con_mut c3 ha ⟨_, upd_same, kv_put (RelKV.mono tx hr) kk (Rel.mono tx _ _ rw')⟩) (s.mono ((fa.trans fr).tx c)) q⟩
end
end Z
namespace ST
open PySem PySem.Spec PyProof.Rows L2 PpSet
section
variable {X : Cx} {pins : List (Addr × Obj)} {σ : L2.St} {H : Hp} {s : Shared} {E : Value → Shared → Prop}
/-- {elt for target in iter if ..}, elt a tuple of ints: Dl the new set -/
def tScT (P : Program) (w : World) (wi : TI) (g : TG) (tt : TT) (te : TE) (vs : List Nat) : TE := fun σ H Q => wi σ H fun J H1 => ∀ Dl, H1 Dl = none → ∃ W : Nat → Nat → Hp → Prop, (∃ m, W 0 m (upd H1 Dl (SetTO P w Dl []))) ∧ ∀ i m H, W i m H →
  (J.stop i H ∧ Q (.ref Dl) H) ∨ (J.go i H ∧ ∃ Nx : Hp → Prop, (∀ H', Nx H' → ∃ m', m' < m ∧ W (i + 1) m' H') ∧ ∀ x H', J.yld i H x H' → g x (wipe σ vs) H' fun σ2 H2 => wipe σ2 vs = wipe σ vs ∧ tt σ2 H2 fun b H3 =>
    if b = true then te σ2 H3 fun y H4 => ∃ (c : Addr) (k : List Int) (L : List (Addr × List Int)), y = .ref c ∧ H4 c = some (.tup (k.map V.int)) ∧ H4 Dl = some (SetTO P w Dl L) ∧ (∀ p ∈ L, H4 p.1 = some (.tup (p.2.map V.int))) ∧ L.length + 1 < 64 ∧
      ∀ L2, (k ∈ L.map (·.2) → L2 = L) → (k ∉ L.map (·.2) → L2.Perm ((c, k) :: L)) → Nx (upd H4 Dl (SetTO P w Dl L2)) else Nx H3)
/-- len of it -/
def rLenST (P : Program) (w : World) : List V → Hp → VK → Prop := fun xs H Q => ∃ (a : Addr) (L : List (Addr × List Int)), xs = [.ref a] ∧ H a = some (SetTO P w a L) ∧ Q (.int L.length) H
end
end ST
namespace Z
open PySem L2 ST
structure StAt (P : Program) (w : World) (K : PySem.W.Frag) (Dl : Addr) (μ : M) (H0 : Hp) (acc : List (List Int)) (H' : Hp) : Prop where
  fr : Fr μ μ H0 H'
  con : Z.Con K H' μ
  no : μ Dl = none
  at_ : ∃ L : List (Addr × List Int), H' Dl = some (SetTO P w Dl L) ∧ (∀ p ∈ L, H' p.1 = some (.tup (p.2.map V.int))) ∧ (L.map (·.2)).Nodup ∧ L.length ≤ acc.length ∧ ∀ k, k ∈ L.map (·.2) ↔ k ∈ acc
theorem seto_ne {P : Program} {w : World} {a : Addr} {L : List (Addr × List Int)} {o : HO} (h : SetTO P w a L = o) (n : ∀ φ, o ≠ .ext φ) : False := n _ h.symm
theorem seto_nc {P : Program} {w : World} {a : Addr} {L : List (Addr × List Int)} {q : Str} (h : SetTO P w a L = LamX.CodeO a q) : False := by
  unfold SetTO LamX.CodeO at h
  injection h with h
  obtain ⟨o, ho⟩ : ∃ o : Obj, o = { cls := .none, data := .fields #[.none, .str q 0] } := ⟨_, rfl⟩
  have e : (Heap.mk (Array.replicate (a + 1) o) {}).get? a = some o := by
    subst ho
    unfold Heap.get?
    simp
  have z := congrFun h (Heap.mk (Array.replicate (a + 1) o) {})
  have k : SetT0 P w (Heap.mk (Array.replicate (a + 1) o) {}) a L := by
    rw [z]
    subst ho
    exact ⟨_, _, 0, e, rfl, rfl⟩
  obtain ⟨es, ep, t, ⟨o2, h2, _, h3⟩, _⟩ := k.ex
  rw [e] at h2
  cases h2
  rw [ho] at h3
  cases h3
theorem rels_ints {K : PySem.W.Frag} {H : Hp} : ∀ {k : List Int} {vs : List V}, Rels K H vs (k.map D.int) → vs = k.map V.int
  | [], _, .nil => rfl
  | _ :: _, _, .cons (.int _) b => by rw [List.map_cons, rels_ints b]
theorem rel_tupI {K : PySem.W.Frag} {H : Hp} {v : V} {k : List Int} (r : Rel K H v (.tup (k.map D.int))) : ∃ c, v = .ref c ∧ H c = some (.tup (k.map V.int)) := by
  cases r with
  | tup h hr =>
    cases h with
    | inl h => exact ⟨_, rfl, by rw [h, rels_ints hr]⟩
section
variable {P : Program} {w : World} {K : PySem.W.Frag} {τ : T} {μ : M} {H H0 H' : Hp} {σ : L2.St} {Φ : D → M → Prop} {te : TE} {wi : TI} {g : TG} {Dl : Addr} {acc : List (List Int)}
theorem st_upd {L L2 : List (Addr × List Int)} (c : Z.Con K H μ) (no : μ Dl = none) (h : H Dl = some (SetTO P w Dl L)) : Tx H (upd H Dl (SetTO P w Dl L2)) ∧ Z.Con K (upd H Dl (SetTO P w Dl L2)) μ := by
  have t : Tx H (upd H Dl (SetTO P w Dl L2)) := ⟨fun a xs e => by rw [upd_ne (fun z => by subst z; rw [h] at e; exact seto_ne (Option.some.inj e) (fun _ z => nomatch z))]; exact e,
    fun a ob xs e => by rw [upd_ne (fun z => by subst z; rw [h] at e; exact seto_ne (Option.some.inj e) (fun _ z => nomatch z))]; exact e,
    fun a q e => by rw [upd_ne (fun z => by subst z; rw [h] at e; exact seto_nc (Option.some.inj e))]; exact e⟩
  exact ⟨t, fun a m e => (c a m e).mono t (upd_ne (fun z => by subst z; rw [no] at e; cases e))⟩
theorem st_start (c : Z.Con K H μ) (hD : H Dl = none) : StAt P w K Dl μ H [] (upd H Dl (SetTO P w Dl [])) :=
  ⟨fr_new hD, con_new hD c, c.free hD, [], upd_same, (fun _ h => absurd h List.not_mem_nil), List.nodup_nil, Nat.le_refl _, fun _ => Iff.rfl⟩
/-- how many different ones there are -/
def NumOf (l : List (List Int)) (n : Nat) : Prop := ∃ d : List (List Int), d.Nodup ∧ (∀ k, k ∈ d ↔ k ∈ l) ∧ n = d.length
theorem a_lenSc {js : List Nat} {dec : D → List D → Prop} (hg : TgOk K g js dec)
    (h : AI K wi τ μ fun xs μw back => ∃ f : D → List Int, xs.length < 63 ∧ (∀ x ∈ xs, ∃ ds, dec x ds ∧ ds.length = js.length ∧ AE K te (sets τ js ds) μw fun y μ2 => y = .tup ((f x).map D.int) ∧ μ2 = μw) ∧ ∀ n, NumOf (xs.map f) n → Φ (.int (n : Int)) (back μw)) :
    AE K (tCB (rLenST P w) (tCons (tScT P w wi g tYes te js) tNil)) τ μ Φ := fun σ H s c Q k => by
  refine h σ H s c _ fun J xs out G H1 μw back tx c1 W g1 o1 B ⟨f, hz, hs, hd⟩ Dl hD => ?_
  have s1 := s.mono tx
  refine ⟨fun i m H' => m = xs.length - i ∧ i ≤ xs.length ∧ StAt P w K Dl μw H1 ((xs.take i).map f) H', ⟨xs.length, by omega, Nat.zero_le _, st_start c1 hD⟩, ?_⟩
  rintro i m H' ⟨rfl, hi, S⟩
  have gH : G H' := W.keep _ _ _ _ c1 o1 g1 S.fr
  by_cases hlt : i < xs.length
  · refine .inr ⟨W.go i H' hlt gH, fun H2 => StAt P w K Dl μw H1 ((xs.take (i + 1)).map f) H2, fun H2 S2 => ⟨xs.length - (i + 1), by omega, rfl, hlt, S2⟩, fun v H2 y => ?_⟩
    obtain ⟨x, hx, rx, hH⟩ := W.yld i H' v H2 hlt gH y
    have S2 : StAt P w K Dl μw H1 ((xs.take i).map f) H2 := by
      rcases hH with e | ⟨T0, vs, hT, e⟩
      · rw [e]; exact S
      · obtain ⟨f2, c2⟩ := yld_ok (vs := vs) S.con hT
        obtain ⟨L, a1, a2, a3, a4, a5⟩ := S.at_
        rw [e]
        exact ⟨S.fr.trans f2, c2, S.no, L, (f2 Dl _ S.no a1).1, fun p hp => (f2.tx S.con).t _ _ (a2 p hp), a3, a4, a5⟩
    obtain ⟨ds, hdec, hl, he⟩ := hs x (List.mem_of_getElem? hx)
    refine hg x ds v _ H2 hdec rx _ fun vs hvs => ⟨by rw [wipe_sets (fun _ h => h), wipe_wipe], ?_⟩
    have s' : Slots K H2 (sets τ js ds) (sets (wipe σ js) js vs) := slots_block (s1.mono (S2.fr.tx c1)) hvs hl
    refine he _ H2 s' S2.con _ fun y μ2 u H4 f4 c4 r4 ⟨ey, em⟩ => ?_
    subst ey em
    obtain ⟨ca, eu, hc⟩ := rel_tupI r4
    subst eu
    obtain ⟨L, a1, a2, a3, a4, a5⟩ := S2.at_
    have b1 : H4 Dl = some (SetTO P w Dl L) := (f4 Dl _ S2.no a1).1
    have b2 : ∀ p ∈ L, H4 p.1 = some (.tup (p.2.map V.int)) := fun p hp => (f4.tx S2.con).t _ _ (a2 p hp)
    have tl : ((xs.take i).map f).length ≤ i := by rw [List.length_map, List.length_take]; omega
    refine ⟨ca, f x, L, rfl, hc, b1, b2, by omega, fun L2 k1 k2 => ?_⟩
    obtain ⟨t5, c5⟩ := st_upd (L2 := L2) c4 S2.no b1
    have more : (xs.take (i + 1)).map f = (xs.take i).map f ++ [f x] := by
      rw [List.take_add_one, hx, List.map_append]; rfl
    have ff : Fr μ2 μ2 H1 (upd H4 Dl (SetTO P w Dl L2)) := fun a o n e => by
      obtain ⟨e2, m2⟩ := (S2.fr.trans f4) a o n e
      exact ⟨by rw [upd_ne (ne_of_none e hD)]; exact e2, m2⟩
    refine ⟨ff, c5, S2.no, L2, upd_same, ?_⟩
    rw [more]
    by_cases hm : f x ∈ L.map (·.2)
    · have e := k1 hm
      subst e
      refine ⟨fun p hp => t5.1 _ _ (b2 p hp), a3, by rw [List.length_append]; omega, fun k => ?_⟩
      rw [List.mem_append, a5 k]
      exact ⟨.inl, fun z => z.elim id fun z => by rw [List.mem_singleton.mp z]; exact (a5 _).mp hm⟩
    · have pm := k2 hm
      refine ⟨fun p hp => t5.1 _ _ ?_, ?_, ?_, fun k => ?_⟩
      · rcases List.mem_cons.mp (pm.mem_iff.mp hp) with e | z
        · rw [e]; exact hc
        · exact b2 p z
      · exact (pm.map (·.2)).nodup_iff.mpr (List.nodup_cons.mpr ⟨hm, a3⟩)
      · rw [pm.length_eq, List.length_cons, List.length_append]
        simp only [List.length_cons, List.length_nil]
        omega
      · rw [(pm.map (·.2)).mem_iff, List.map_cons, List.mem_cons, List.mem_append, List.mem_singleton, a5 k]
        exact ⟨fun z => z.symm, fun z => z.symm⟩
  · have e : i = xs.length := by omega
    subst e
    obtain ⟨L, a1, a2, a3, a4, a5⟩ := S.at_
    rw [List.take_length] at a5
    refine .inl ⟨W.stop _ H' (Nat.le_refl _) gH, ?_⟩
    refine ⟨Dl, L, rfl, a1, k _ (back μw) _ H' (B.fr _ _ S.fr) (B.con _ _ S.fr S.con) (.int _) (hd L.length ⟨L.map (·.2), a3, a5, by rw [List.length_map]⟩)⟩
end
end Z
namespace Z
open PySem L2 PyProof.Rows
section
variable {X : Cx} {a b c e : Expr} {ta tb tc te : TE} {pos : Pos}
def tChain3 (r1 r2 r3 : R2) (ta tb tc te : TE) : TE := fun σ H Q => ta σ H fun x H1 => tb σ H1 fun y H2 => r1 x y H2 fun z H3 => ∃ k, z = .bl k ∧
  (if k = true then tc σ H3 fun w H4 => r2 y w H4 fun z' H5 => ∃ k', z' = .bl k' ∧ (if k' = true then te σ H5 fun u H6 => r3 w u H6 Q else Q (.bl false) H5) else Q (.bl false) H3)
end
section
variable {K : PySem.W.Frag} {τ : T} {μ μ1 μ2 : M} {H H1 H2 : Hp} {σ : L2.St} {Φ Ψ : D → M → Prop} {ta tb tc td te : TE} {r1 r2 r3 : R2} {d e : D} {N : AEnds}
theorem a_chain3 (h : AE K ta τ μ fun d μ1 => AE K tb τ μ1 fun e μ2 => RO K r1 d e μ2 fun z μ3 => ∃ b, z = .bl b ∧
      if b = true then AE K tc τ μ3 fun w μ4 => RO K r2 e w μ4 fun z' μ5 => ∃ b', z' = .bl b' ∧ if b' = true then AE K te τ μ5 fun u μ6 => RO K r3 w u μ6 Φ else Φ (.bl false) μ5 else Φ (.bl false) μ3) :
    AE K (tChain3 r1 r2 r3 ta tb tc te) τ μ Φ := by
  intro σ H s c Q k
  refine h σ H s c _ fun d μ1 v H1 f1 c1 k1 p1 => ?_
  refine p1 σ H1 (s.mono (f1.tx c)) c1 _ fun e μ2 u H2 f2 c2 k2 p2 => ?_
  refine p2 H2 v u c2 (Rel.mono (f2.tx c1) _ _ k1) k2 _ fun z μ3 w H3 f3 c3 kz ⟨b, ez, p3⟩ => ?_
  subst ez
  cases kz
  refine ⟨b, rfl, ?_⟩
  have f13 := (f1.trans f2).trans f3
  cases b with
  | false => exact k _ μ3 _ H3 f13 c3 (.bl false) (show Φ (.bl false) μ3 from p3)
  | true =>
    have p3' : AE K tc τ μ3 fun w μ4 => RO K r2 e w μ4 fun z' μ5 => ∃ b', z' = .bl b' ∧ if b' = true then AE K te τ μ5 fun u μ6 => RO K r3 w u μ6 Φ else Φ (.bl false) μ5 := p3
    rw [if_pos rfl]
    refine p3' σ H3 (s.mono (f13.tx c)) c3 _ fun x4 μ4 w' H4 f4 c4 k4 p4 => ?_
    refine p4 H4 u w' c4 (Rel.mono ((f3.trans f4).tx c2) _ _ k2) k4 _ fun z' μ5 o H5 f5 c5 kz' ⟨b', ez', p5⟩ => ?_
    subst ez'
    cases kz'
    refine ⟨b', rfl, ?_⟩
    have f15 := (f13.trans f4).trans f5
    cases b' with
    | false => exact k _ μ5 _ H5 f15 c5 (.bl false) (show Φ (.bl false) μ5 from p5)
    | true =>
      have p5' : AE K te τ μ5 fun u μ6 => RO K r3 x4 u μ6 Φ := p5
      rw [if_pos rfl]
      refine p5' σ H5 (s.mono (f15.tx c)) c5 _ fun u2 μ6 v6 H6 f6 c6 k6 p6 => ?_
      exact p6 H6 w' v6 c6 (Rel.mono ((f5.trans f6).tx c4) _ _ k4) k6 Q fun z μ7 o7 H7 f7 c7 k7 p7 => k z μ7 o7 H7 ((f15.trans f6).trans f7) c7 k7 p7
end
theorem rc_max3 {K : PySem.W.Frag} {i j l : Int} {μ : M} {Φ : D → M → Prop} (q : Φ (.int (max (max i j) l)) μ) : RC K (rNuC3 nuMax3) [.int i, .int j, .int l] μ Φ := fun H xs c r Q k => by
  cases r with
  | cons a r =>
    cases r with
    | cons b r =>
      cases r with
      | cons d r =>
        cases a; cases b; cases d; cases r
        refine ⟨_, _, _, .int (max (max i j) l), rfl, ?_, k _ μ _ H Fr.refl c (.int _) q⟩
        have m2 : ∀ x y : Int, nuMax2 (.int x) (.int y) = some (.int (max x y)) := fun x y => by
          unfold nuMax2 nuLt nuCB
          simp only [Option.map_some]
          by_cases h : x < y
          · rw [if_pos (decide_eq_true h)]; congr 2; omega
          · rw [if_neg (by simpa using h)]; congr 2; omega
        unfold nuMax3
        rw [m2, Option.bind_some, m2]
end Z
namespace Z
open PySem L2 PyProof.Rows
/-- an own error with a text -/
structure Exc0 (K : PySem.W.Frag) (mg : Str → Option Value) (x : Str) (C : Addr) : Prop where
  ex : ∃ (B newId initId : String) (tl : List Value), ExcBaseFacts B newId initId tl ∧ PySem.W.excIn K C tl newId = true
  mg : mg x = some (.ref C)
  kp : PySem.W.keepIn K (.ref C) = true
  r1 : PySem.W.subIn K (.ref C) (.type "BaseException") = some true
  r2 : PySem.W.typeIn K (.ref C) = some (.type "type")
end Z
namespace SD
open PySem PySem.Spec PyProof.Rows L2 PySem.W
/-- a list of data is held, each value with what it reads as -/
def rSortD (K : PySem.W.Frag) : List V → Hp → VK → Prop := fun vs H Q => ∃ (a : Addr) (bs : List (V × PyData)), vs = [.ref a] ∧ SqL K H a (bs.map (·.1)) ∧ (∀ b ∈ bs, Dp K H b.1 b.2) ∧ AllAlike (bs.map (·.2)) ∧ Sortable (bs.map (·.2)) ∧
  (∀ b ∈ bs, b.2.depth ≤ 8) ∧ ∀ p, H p = none → Q (.ref p) (upd H p (.lst ((bs.mergeSort (dataLe false (·.2))).map (·.1))))
theorem each_of {α β γ : Type} {R : α → β → Prop} (f : γ → α) : ∀ {bs : List γ} {us : List β}, Paired R (bs.map f) us → EachIs (fun u b => R (f b) u) us bs
  | [], [], .nil => .nil
  | _ :: _, _ :: _, .cons a b => .cons a (each_of f b)
theorem each_imp {α β : Type} {R S : α → β → Prop} : ∀ {us : List α} {bs : List β}, EachIs R us bs → (∀ u b, b ∈ bs → R u b → S u b) → EachIs S us bs
  | [], [], .nil, _ => .nil
  | _ :: _, _ :: _, .cons a b, h => .cons (h _ _ List.mem_cons_self a) (each_imp b fun u c hc => h u c (List.mem_cons_of_mem _ hc))
theorem vals_each {γ : Type} (f : γ → V) : ∀ {us : List Value} {bs : List γ}, EachIs (fun u b => RelV (f b) u) us bs → Vals (bs.map f) us
  | [], [], .nil => .nil
  | _ :: _, _ :: _, .cons a b => .cons a (vals_each f b)
theorem cr_sortD {X : Cx} (hu : X.A.units + 64 < cLine) : CallR X (.builtin "sorted") (rSortD X.K) := by
  intro pins s σ H vs us Q I r h
  obtain ⟨a, bs, rfl, hs, hd, hal, hk, hde, q⟩ := h
  obtain ⟨its, rv, hl, hz⟩ := I.list hs
  rw [Vals.ref1 r]
  have e : EachIs (fun u (b : V × PyData) => RelV b.1 u) its bs := each_of (fun b : V × PyData => b.1) rv
  have er : EachIs (fun v (b : V × PyData) => ∃ as, Reads s.heap v b.2 as) its bs := each_imp e fun u b hb rb => Dp.reads I b.2 b.1 u (hd b hb) rb
  have len : bs.length = its.length := e.length.symm
  have small : bs.length ≤ sizeLine := by
    rw [List.length_map] at hz
    exact hz
  refine sorted_data (enc := fun b : V × PyData => b.2) hl.isList e er hal hk small (fun b hb => by have := hde b hb; omega) fun out ho eo => ?_
  obtain ⟨c, hc⟩ := sortedAll_at s.heap its out.toArray
  have rr := vals_each (fun b : V × PyData => b.1) eo
  have big : ((bs.mergeSort (dataLe false (·.2))).map (·.1)).length ≤ sizeLine := by
    rw [List.length_map, List.length_mergeSort]
    exact small
  exact ⟨.ref (s.heap.objs.size + 1), upd H (s.heap.objs.size + 1) (.lst ((bs.mergeSort (dataLe false (·.2))).map (·.1))), I.laid (t' := s.toks) (fun b u e => sortedAll_old e) (Nat.le_succ _) ⟨big, out, c, rr, hc⟩, rfl, q _ (I.hok.fresh (Nat.le_succ _))⟩
theorem cr_sortDK {X : Cx} {K : PySem.W.Frag} (h : X.K = K) (hu : X.A.units + 64 < cLine) : CallR X (.builtin "sorted") (rSortD K) := by subst h; exact cr_sortD hu
end SD
namespace Z
open PySem L2 SD PySem.W
/-- a list of data, sorted as Python has it -/
def srtD (ds : List D) : List D := ds.mergeSort (dataLe false D.py)
theorem zip_rels {K : PySem.W.Frag} {H : Hp} : ∀ {vs : List V} {ds : List D}, Rels K H vs ds → (vs.zip ds).map (·.1) = vs ∧ (vs.zip ds).map (·.2) = ds ∧ ∀ p ∈ vs.zip ds, Rel K H p.1 p.2
  | [], [], .nil => ⟨rfl, rfl, fun _ h => (by cases h)⟩
  | v :: vs, d :: ds, .cons a b => by
    obtain ⟨h1, h2, h3⟩ := zip_rels b
    refine ⟨by rw [List.zip_cons_cons, List.map_cons, h1], by rw [List.zip_cons_cons, List.map_cons, h2], fun p hp => ?_⟩
    rcases List.mem_cons.mp hp with e | z
    · rw [e]; exact a
    · exact h3 p z
theorem rels_of_pairs {K : PySem.W.Frag} {H : Hp} : ∀ {ps : List (V × D)}, (∀ p ∈ ps, Rel K H p.1 p.2) → Rels K H (ps.map (·.1)) (ps.map (·.2))
  | [], _ => .nil
  | p :: ps, h => .cons (h p List.mem_cons_self) (rels_of_pairs fun q hq => h q (List.mem_cons_of_mem _ hq))
section
variable {K : PySem.W.Frag} {μ : M} {Φ : D → M → Prop} {a : Addr}
theorem rc_sorted {ds : List D} (h : μ a = some (.lst ds)) (ok : ∀ x ∈ ds, OkN 8 x) (hal : AllAlike (ds.map D.py)) (hk : Sortable (ds.map D.py)) (q : ∀ p, μ p = none → Φ (.ref p) (μ.set p (.lst (srtD ds)))) : RC K (rSortD K) [.ref a] μ Φ := fun H xs c r Q k => by
  cases r with
  | cons r rn =>
  cases r; cases rn
  obtain ⟨vs, hv, hr⟩ := c a _ h
  obtain ⟨z1, z2, z3⟩ := zip_rels hr
  have e1 : ((vs.zip ds).map fun p => (p.1, D.py p.2)).map (·.1) = vs := by rw [List.map_map]; exact z1
  have e2 : ((vs.zip ds).map fun p => (p.1, D.py p.2)).map (·.2) = ds.map D.py := by
    rw [List.map_map]
    have : ((fun x : V × PyData => x.2) ∘ fun p : V × D => (p.1, D.py p.2)) = D.py ∘ (·.2) := rfl
    rw [this, ← List.map_map, z2]
  have inD : ∀ p ∈ vs.zip ds, p.2 ∈ ds := fun p hp => by rw [← z2]; exact List.mem_map.mpr ⟨p, hp, rfl⟩
  refine ⟨a, (vs.zip ds).map fun p => (p.1, D.py p.2), rfl, by rw [e1]; exact SqL.of hv, fun b hb => ?_, by rw [e2]; exact hal, by rw [e2]; exact hk, fun b hb => ?_, fun p hp => ?_⟩
  · obtain ⟨p, hp, rfl⟩ := List.mem_map.mp hb
    exact Rel.dp _ _ (z3 p hp) (ok _ (inD p hp)).p
  · obtain ⟨p, hp, rfl⟩ := List.mem_map.mp hb
    exact (ok _ (inD p hp)).d
  · have m1 : (((vs.zip ds).map fun p => (p.1, D.py p.2)).mergeSort (dataLe false (·.2))).map (·.1) = ((vs.zip ds).mergeSort (dataLe false fun p => D.py p.2)).map (·.1) := by
      rw [← List.map_mergeSort (r := dataLe false fun p : V × D => D.py p.2) (s := dataLe false (·.2)) (f := fun p => (p.1, D.py p.2)) (fun _ _ _ _ => rfl), List.map_map]
      rfl
    have m2 : srtD ds = ((vs.zip ds).mergeSort (dataLe false fun p => D.py p.2)).map (·.2) := by
      unfold srtD
      rw [List.map_mergeSort (r := dataLe false fun p : V × D => D.py p.2) (s := dataLe false D.py) (f := fun p : V × D => p.2) (fun _ _ _ _ => rfl), z2]
    rw [m1]
    have rr : Rels K H (((vs.zip ds).mergeSort (dataLe false fun p => D.py p.2)).map (·.1)) (srtD ds) := by
      rw [m2]
      exact rels_of_pairs fun p hp => z3 p ((List.mergeSort_perm _ _).mem_iff.mp hp)
    exact k _ _ _ _ (fr_put hp) (con_put (m := .lst (srtD ds)) hp c ⟨_, upd_same, Rels.mono (tx_new hp) _ _ rr⟩) (.ref p) (q p (c.free hp))
end
/-- pairs of ints stand as tuples do -/
def leP (p q : Int × Int) : Bool := decide (p.1 < q.1) || (decide (p.1 = q.1) && decide (p.2 ≤ q.2))
theorem le_pt (a b c d : Int) : dataLe false D.py (pt a b) (pt c d) = leP (a, b) (c, d) := by
  unfold dataLe sortLe leP
  simp only [cond_false, D.py, D.pys, keyToks, keyToksAll, List.singleton_append, List.cons_append, List.nil_append]
  show (!PyProof.Rows.lexLt PyProof.Rows.itemOrd [.inl 1, .inl c, .inl 1, .inl d, .inl 0] [.inl 1, .inl a, .inl 1, .inl b, .inl 0]) = _
  rw [PyProof.Rows.lex_cons, PyProof.Rows.lex_cons, PyProof.Rows.lex_cons, PyProof.Rows.lex_cons, PyProof.Rows.lex_cons]
  show (!(decide ((1 : Int) < 1) || (!decide ((1 : Int) < 1) && (decide (c < a) || (!decide (a < c) && (decide ((1 : Int) < 1) || (!decide ((1 : Int) < 1) && (decide (d < b) || (!decide (b < d) && (decide ((0 : Int) < 0) || (!decide ((0 : Int) < 0) && false)))))))))) ) = _
  by_cases h1 : a < c <;> by_cases h2 : c < a <;> by_cases h3 : b ≤ d <;> by_cases h4 : d < b <;> by_cases h5 : a = c <;> simp [h1, h2, h3, h4, h5] <;> omega
end Z
namespace ZT
open PySem PySem.Spec PyProof.Rows L2
section
variable {M : Model} {h : Heap} {a : Addr} {oe : Obj} {vs : Array Value}
theorem lk_noType (ha : h.get? a = some oe) (hd : oe.data = .fields vs) : PySem.W.Looks M h (isType (.ref a)) false := by
  have e : (match oe.data with | .cls _ => true | _ => false) = false := by rw [hd]
  exact (PySem.W.Looks.ld ha).andThen (PySem.W.Looks.of_pure (by rw [hd]))
theorem lk_type (ha : h.get? a = some oe) : PySem.W.Looks M h (typeOf (.ref a)) oe.cls :=
  fun _ _ _ _ k q => wpAny_typeOf_ref (k _ _ ha) q
/-- an error stands for itself, whatever the complaint would be -/
theorem lk_self (ha : h.get? a = some oe) (hd : oe.data = .fields vs) (x : PySem.W.Looks M h (isSubtype oe.cls (.type "BaseException")) true) (msg : String) :
    PySem.W.Looks M h (excFromValue (.ref a) msg) (.ref a) := by
  have n1 : PySem.W.Looks M h (isExcClass (.ref a)) false := (lk_noType ha hd).andThen PySem.W.Looks.now
  exact n1.andThen (((lk_type ha).andThen x).andThen PySem.W.Looks.now)
theorem lk_raised (ha : h.get? a = some oe) (y : PySem.W.Looks M h (typeOf oe.cls) (.type "type")) : PySem.W.Looks M h (raisedInstance (.ref a)) (.ref a) :=
  (lk_type ha).andThen (y.andThen PySem.W.Looks.now)
theorem lk_still (ha : h.get? a = some oe) (hd : oe.data = .fields vs) (h1 : vs[1]? = some .none) : PySem.W.Looks M h (setFlight (.ref a) none) () :=
  fun _ _ _ _ k q => wpAny_bind (wpAny_field (k _ _ ha) hd h1 (wpAny_pure q))
end
/-- a record made over h0, on its way to be raised -/
structure Made (M : Model) (h0 h : Heap) (a : Addr) (cls : Value) (d : Option Addr) : Prop where
  new : h0.get? a = none
  old : ∀ b o, h0.get? b = some o → h.get? b = some o
  fin : ∃ oe vs, h.get? a = some oe ∧ oe.data = .fields vs ∧ oe.cls = cls ∧ oe.dict = d ∧ vs[1]? = some .none ∧ 4 < vs.size
  exc : PySem.W.Looks M h0 (isSubtype cls (.type "BaseException")) true
  met : PySem.W.Looks M h0 (typeOf cls) (.type "type")
section
variable {M : Model} {h0 : Heap} {a : Addr} {cls : Value} {d : Option Addr} {A : Around} {E : Value → Shared → Prop} {s : Shared}
/-- one more field is told -/
theorem Made.upd {h : Heap} (m : Made M h0 h a cls d) {i : Nat} (v : Value) (hi : i ≠ 1) : Made M h0 (h.update a (Obj.mapFields (·.setIfInBounds i v))) a cls d := by
  obtain ⟨oe, vs, ha, hd, hc, hx, h1, hz⟩ := m.fin
  have hd' := Obj.data_mapFields hd (·.setIfInBounds i v)
  exact ⟨m.new, fun b o e => (Heap.get?_update_other _ _ fun z => Option.some_ne_none _ (((congrArg h0.get? z).trans e).symm.trans m.new)).trans (m.old b o e),
    ⟨_, _, Heap.get?_update_self _ ha (Obj.isFreed_of_fields hd'), hd', (Obj.cls_mapFields ..).trans hc, (HandSPX.dict_mapFields ..).trans hx, HotX.set_other hi h1, by rw [HotX.set_size]; exact hz⟩, m.exc, m.met⟩
theorem Made.put (m : Made M h0 s.heap a cls d) {i : Nat} {v : Value} {Q : Unit → Shared → Prop} (hi : i ≠ 1) (h4 : i ≤ 4)
    (q : ∀ h', Made M h0 h' a cls d → Q () { s with heap := h' }) : wpAny M A (setField (.ref a) i v) Q E s := by
  obtain ⟨oe, vs, ha, hd, -, -, -, hz⟩ := id m.fin
  exact wpAny_setField ha hd (Nat.lt_of_le_of_lt h4 hz) (q _ (m.upd v hi))
end
/-- raise x from c, where c's error is the one that is handled: the record is finished, then it is in flight -/
theorem raise_from {prog : Program} {w : World} {A : Around} {E : Value → Shared → Prop} {env : Env} {s : Shared} {x c : Sem Value} {Q : Flow → Shared → Prop} {x1 : Addr}
    (h : wpAny (model prog w) A x (fun v s₁ => ∃ a h0 cls d o1 vs1, v = .ref a ∧ Made (model prog w) h0 s₁.heap a cls d ∧ h0.get? x1 = some o1 ∧ o1.data = .fields vs1 ∧ vs1[2]? = some .none ∧ A.handled = some (.ref x1) ∧
      PySem.W.Looks (model prog w) h0 (isSubtype o1.cls (.type "BaseException")) true ∧ (∀ Q' : Value → Shared → Prop, Q' (.ref x1) s₁ → wpAny (model prog w) A c Q' E s₁) ∧
      ∀ h', Made (model prog w) h0 h' a cls d → E (.ref a) { s₁ with heap := h' }) E s) :
    wpAny (model prog w) A (raiseStmt env (some x) (some c)) Q E s := by
  refine wpAny_bind (thn h fun v s₁ ⟨a, h0, cls, d, o1, vs1, ev, m, g1, d1, c1, hh, b1, hc, hE⟩ => ?_)
  subst ev
  obtain ⟨oe, vs, ha, hd, ec, ex, h1, hz⟩ := id m.fin
  have k1 := m.old _ _ g1
  have self := lk_self (M := model prog w) ha hd (by rw [ec]; exact m.exc.keeps m.old)
  have cause := lk_self (M := model prog w) k1 d1 (b1.keeps m.old)
  refine wpAny_bind (wpAny_holding (hc _ (wpAny_bind (wpAny_pure ?_))))
  refine wpAny_bind (wpAny_holding ((self _).here ?_))
  show wpAny _ _ (do let c ← (if (Value.ref x1 == Value.none) = true then pure .none else holding [.ref a] (excFromValue (.ref x1) "exception causes must derive from BaseException")); setField (.ref a) 3 c; setField (.ref a) 4 (.bool true); _) _ _ _
  rw [if_neg (by simp)]
  refine wpAny_bind (wpAny_holding ((cause _).here (wpAny_bind (m.put (by decide) (by decide) fun h3 m3 => wpAny_bind (m3.put (by decide) (by decide) fun h4 m4 => ?_)))))
  obtain ⟨o4, v4, ha4, hd4, ec4, ex4, h14, hz4⟩ := id m4.fin
  refine wpAny_bind ((lk_noType ha4 hd4).here ?_)
  show wpAny _ _ (do let e ← raisedInstance (.ref a); setFlight e none; raiseNew e) _ _ _
  refine wpAny_bind ((lk_raised ha4 (by rw [ec4]; exact m4.met.keeps m4.old)).here (wpAny_bind ((lk_still ha4 hd4 h14).here ?_)))
  exact HotX.raiseNew_hot ⟨hh, o1, vs1, m4.old _ _ g1, d1, c1⟩ (fun z => by rw [z, m.new] at g1; cases g1) ha4 hd4 (by omega) (hE _ (m4.upd _ (by decide)))
end ZT
namespace ZT
open PySem PySem.Spec PyProof.Rows L2
section
variable {X : Cx} {pins : List (Addr × Obj)} {σ : L2.St} {H : Hp} {s : Shared}
/-- a slot's address, read: the state stays as it is -/
theorem slot_ld {M : Model} {A : Around} {E : Value → Shared → Prop} {i : Nat} {n : Str} {np : Pos} {a : Addr} {Q : Value → Shared → Prop} (I : Inv X pins σ H s) (hN : X.N[i]? = some n) (hσ : σ[i]? = some (some (.ref a))) (hv : Vis X.env.scope n) (q : Q (.ref a) s)
    (hdb : (n == ("__debug__" : Str)) = false) (hcd : (n == ("__classdict__" : Str)) = false) : wpAny M A (eval (.Name n np) X.env) Q E s := by
  obtain ⟨m, hn, at_⟩ := I.loc
  refine wpAny_Name ?_ hdb
  match at_ i n _ hN hσ hv with
  | ⟨_, rfl, .inl ⟨k, e⟩⟩ => exact wpAny_loadName_local I.ok.kind k hn e q
  | ⟨_, rfl, .inr ⟨.inl k, _, e, z⟩⟩ => exact wpAny_loadName_cell I.ok.kind k e z q
  | ⟨_, rfl, .inr ⟨.inr k, _, e, z⟩⟩ => exact wpAny_loadName_free I.ok.kind k e z q hcd
end
end ZT
namespace L2H
open PySem PySem.Spec PyProof.Rows L2 HotX
/-- classes of exceptions, by the table alone -/
def RaisesK (K : PySem.W.Frag) (cls : Value) : Prop := ∀ (M : Model) (h : Heap), K.In h → PySem.W.Looks M h (isSubtype cls (.type "BaseException")) true
/-- raise X(..) from n, n the name of the clause -/
theorem ps_raiseHE {X : Cx} {W : WX} {e : Expr} {t : L2.St → Hp → XK → Prop} {i : Nat} {n : Str} {np pos : Pos} {a1 : Addr} {oe1 : Obj} {cls1 : Value} {K : PySem.W.Frag} (hK : X.K = K) (hp : (a1, oe1) ∈ X.pn) (hot : Hot1 X.A (a1, oe1)) (hcl : oe1.cls = cls1) (hN : X.N[i]? = some n) (hv : Vis X.env.scope n)
    (tk : L2.Takes X W) (he : PMk5 X e t) (hdb : (n == ("__debug__" : Str)) = false := by decide) (hcd : (n == ("__classdict__" : Str)) = false := by decide) :
    PS X (.Raise (some e) (some (.Name n np)) pos) (fun _ σ H => RaisesK K cls1 ∧ σ[i]? = some (some (.ref a1)) ∧ t σ H fun cls d H' => W cls d σ H') where
  run pins s σ H D I := fun ⟨rK, hσ, h⟩ => by
    subst hK hcl
    obtain ⟨hh, v1, e1, c1⟩ := hot
    refine wpAny_bind (wpAny_standAt (ZT.raise_from (x1 := a1) (wpAny_bind (thn (he pins s σ H _ I h) fun u s1 made => wpAny_bind (wpAny_standAt (wpAny_pure ?_))))))
    obtain ⟨⟨a, oe, vs, sI, H', cls, d, eu, J, k, hne, ha, hz, hd, h1, na, os, ag, r, q⟩, six⟩ := made
    have grown : Inv X pins σ H' s1 := J.landed (B := sI.heap) (fun _ _ e _ => e) k (.of_keeps k) os ag
    have stands := (J.pin _ (List.mem_append_left _ hp)).1
    refine ⟨a, sI.heap, cls, d, oe1, v1, eu, ⟨hne, k, ⟨oe, vs, ha, hd, hz.1, hz.2.1, h1, six a oe vs eu ha hd⟩, (r _ _ J.kIn).1, (r _ _ J.kIn).2⟩, stands, e1, c1, hh, rK _ _ J.kIn, fun Q' q' => ?_, fun h' m => ?_⟩
    · exact wpAny_bind (ZT.slot_ld grown hN hσ hv (wpAny_bind (wpAny_standAt (wpAny_pure q'))) hdb hcd)
    · obtain ⟨o', v', g', d', ec, ex, h1', -⟩ := m.fin
      exact tk _ _ (.new (s' := { s1 with heap := h' }) J m.old hne g' ⟨ec, ex⟩ d' h1' na os ag q)
end L2H
namespace ZT
open PySem PySem.Spec PyProof.Rows L2
/-- kinds of records: with any context, with none -/
structure Kind (Z : Value → Option Addr → Obj → Prop) : Prop where
  zc : ∀ {c d o}, Z c d o → Zc c d o
  land : ∀ {M : Model} {A : Around} {E₁ : Value → Shared → Prop} {env : Env} {outer : List Env} {B : Heap} {L a : Addr} {c : Value} {d : Option Addr} {Q : Unit → Shared → Prop} {s : Shared}, A.frames = some (env :: outer) → env.frame = some L →
    Sky B (env :: outer) a (Z c d) L s.heap → (∀ h', HandSPX.FlyingZ B (env :: outer) a (Z c d) h' → s.heap.UpToSlots h' → Q () { s with heap := h' }) →
      wpAny M A (noteFrame (.ref a) env) (fun _ s₂ => wpAny M A (setFlight (.ref a) none) Q E₁ s₂) E₁ s
theorem kind_n : Kind L2N.Zn := ⟨fun h => h.zc, fun hfr hf x q => L2N.Sky.land L2N.Zn.steady hfr hf x q⟩
/-- the own frame is on top -/
structure Top (X : Cx) : Prop where
  ok : X.Ok
  stk : X.stack = X.env :: X.outer
  frm : X.env.frame = some X.env.locals
theorem Top.frames {X : Cx} (t : Top X) (hd : Option Value) : (X.A.mark hd).frames = some (X.env :: X.outer) := t.stk ▸ t.ok.frames
/-- an error at a: sI is the state without it, B the ground -/
structure Aloft (Z : Value → Option Addr → Obj → Prop) (X : Cx) (B : Heap) (sI : Shared) (pins : List (Addr × Obj)) (σ : L2.St) (H : Hp) (c : Value) (d : Option Addr) (a : Addr) (s : Shared) : Prop where
  inv : Inv X pins σ H sI
  gnd : ∀ b o, sI.heap.get? b = some o → b ∉ frs X.stack → B.get? b = some o
  up : sI.heap.UpToSlots s.heap
  sky : Sky B X.stack a (Z c d) X.env.locals s.heap
  na : H a = none
  os : s.os = sI.os
  ag : AllBare s.gens
section
variable {Z : Value → Option Addr → Obj → Prop} {X : Cx} {B : Heap} {sI s : Shared} {pins : List (Addr × Obj)} {σ : L2.St} {H : Hp} {c : Value} {d : Option Addr} {a : Addr}
theorem Aloft.xe {W : WX} (x : Aloft Zc X B sI pins σ H c d a s) (w : W c d σ H) : L2.XE X W (.ref a) s := ⟨a, B, sI, pins, σ, H, c, d, rfl, x.inv, x.gnd, x.up, x.sky, x.na, x.os, x.ag, w⟩
theorem aloft_of {W : WX} {u : Value} : L2.XE X W u s → ∃ a B sI pins σ H c d, u = .ref a ∧ Aloft Zc X B sI pins σ H c d a s ∧ W c d σ H :=
  fun ⟨a, B, sI, pins, σ, H, c, d, e, k1, k2, k3, k4, k5, k6, k7, w⟩ => ⟨a, B, sI, pins, σ, H, c, d, e, ⟨k1, k2, k3, k4, k5, k6, k7⟩, w⟩
theorem aloft_ofN {W : WX} {u : Value} : L2N.XE X W u s → ∃ a B sI pins σ H c d, u = .ref a ∧ Aloft L2N.Zn X B sI pins σ H c d a s ∧ W c d σ H :=
  fun ⟨a, B, sI, pins, σ, H, c, d, e, k1, k2, k3, k4, k5, k6, k7, w⟩ => ⟨a, B, sI, pins, σ, H, c, d, e, ⟨k1, k2, k3, k4, k5, k6, k7⟩, w⟩
/-- the same, caught: it flies over this frame, noted nowhere -/
structure Got (Z : Value → Option Addr → Obj → Prop) (X : Cx) (B : Heap) (sI : Shared) (pins : List (Addr × Obj)) (σ : L2.St) (H : Hp) (c : Value) (d : Option Addr) (a : Addr) (s : Shared) : Prop where
  top : Top X
  inv : Inv X pins σ H sI
  gnd : ∀ b o, sI.heap.get? b = some o → b ∉ frs X.stack → B.get? b = some o
  up : sI.heap.UpToSlots s.heap
  fl : HandSPX.FlyingZ B (X.env :: X.outer) a (Z c d) s.heap
  na : H a = none
  os : s.os = sI.os
  ag : AllBare s.gens
theorem Got.here (g : Got Z X B sI pins σ H c d a s) : Inv X pins σ H s := g.inv.landed g.gnd g.fl.1 g.up g.os g.ag
/-- its record stands apart from all frames, and from the ground -/
theorem Got.apart (g : Got Z X B sI pins σ H c d a s) : ∃ oe vs, s.heap.get? a = some oe ∧ Z c d oe ∧ oe.data = .fields vs ∧ a ≠ X.env.locals ∧ a ∉ X.fs ∧ X.base.get? a = none := by
  obtain ⟨oe, vs, he, hz, hd⟩ := g.fl.there
  have off : a ∉ frs (X.env :: X.outer) := fun hm => by
    obtain ⟨-, o, e, nf⟩ := g.fl.2.2.1.mem hm
    exact nf vs (Option.some.inj (he.symm.trans e) ▸ hd)
  have nl : a ≠ X.env.locals := fun z => off (List.mem_filterMap.mpr ⟨X.env, List.mem_cons_self, z ▸ g.top.frm⟩)
  have nf : a ∉ X.fs := fun hm => off (by
    obtain ⟨e, he, q⟩ := List.mem_filterMap.mp hm
    exact List.mem_filterMap.mpr ⟨e, List.mem_cons_of_mem _ he, q⟩)
  refine ⟨oe, vs, he, hz, hd, nl, nf, Option.eq_none_iff_forall_not_mem.mpr fun o e => ?_⟩
  have b1 := g.gnd a o (g.inv.bk a o e) (g.top.stk ▸ off)
  exact Option.some_ne_none _ (b1.symm.trans g.fl.2.1)
/-- .. and stays so in a greater heap, or when its flight is told again -/
theorem Got.grow (g : Got Z X B sI pins σ H c d a s) (o : Obj) : Got Z X B sI pins σ H c d a { s with heap := s.heap.push o } := by
  have k : ∀ b u, s.heap.get? b = some u → (s.heap.push o).get? b = some u := fun b u e => Heap.get?_push_of_some _ e
  obtain ⟨f1, f2, f3, oe, vs, T, oT, ts, k1, k2, k3, k4, k5, k6, k7, k8⟩ := g.fl
  exact ⟨g.top, g.inv, g.gnd, g.up.trans (.of_keeps k), ⟨fun b u e => k b u (f1 b u e), f2, f3.of_keeps fun b u e _ => ⟨u, k b u e, rfl⟩, oe, vs, T, oT, ts, k _ _ k1, k2, k3, k4, k5, k6, k _ _ k7, k8⟩, g.na, g.os, g.ag⟩
theorem Got.again {M : Model} {A : Around} {E : Value → Shared → Prop} {Q : Unit → Shared → Prop} (g : Got Z X B sI pins σ H c d a s) (q : ∀ h', Got Z X B sI pins σ H c d a { s with heap := h' } → Q () { s with heap := h' }) :
    wpAny M A (setFlight (.ref a) none) Q E s :=
  HandSPX.lands_againZ g.fl fun h' fl up => q h' ⟨g.top, g.inv, g.gnd, g.up.trans up, fl, g.na, g.os, g.ag⟩
theorem Aloft.land {M : Model} {A : Around} {E : Value → Shared → Prop} {Q : Unit → Shared → Prop} (k : Kind Z) (t : Top X) (x : Aloft Z X B sI pins σ H c d a s) (hfr : A.frames = some (X.env :: X.outer)) (q : ∀ h', Got Z X B sI pins σ H c d a { s with heap := h' } → Q () { s with heap := h' }) :
    wpAny M A (noteFrame (.ref a) X.env) (fun _ s₂ => wpAny M A (setFlight (.ref a) none) Q E s₂) E s :=
  k.land hfr t.frm (t.stk ▸ x.sky) fun h' fl up => q h' ⟨t, x.inv, x.gnd, x.up.trans up, fl, x.na, x.os, x.ag⟩
/-- noted in this frame -/
theorem Aloft.note {M : Model} {A : Around} {E : Value → Shared → Prop} {Q : Unit → Shared → Prop} (t : Top X) (x : Aloft Zc X B sI pins σ H c d a s) (hfr : A.frames = some (X.env :: X.outer))
    (q : ∀ h', HandSPX.HeldZ B (X.env :: X.outer) a (Zc c d) X.env.locals h' → Aloft Zc X B sI pins σ H c d a { s with heap := h' } → Q () { s with heap := h' }) : wpAny M A (noteFrame (.ref a) X.env) Q E s := by
  have on : ∀ h', HandSPX.HeldZ B (X.env :: X.outer) a (Zc c d) X.env.locals h' → s.heap.UpToSlots h' → Q () { s with heap := h' } := fun h' hh up => q h' hh ⟨x.inv, x.gnd, x.up.trans up, .inr (.inr (t.stk ▸ hh)), x.na, x.os, x.ag⟩
  match t.stk ▸ x.sky with
  | .inl ⟨st, n, ff, _, _, g, z, e, e1⟩ => exact HandSPX.look_newZ Zc.steady hfr ff t.frm g st n e e1 z on
  | .inr (.inl fl) => exact HandSPX.looks_onZ Zc.steady hfr t.frm fl on
  | .inr (.inr hh) => exact HandSPX.againZ t.frm hh.2.2.2 (on _ hh (.refl _))
/-- what flies, or is noted, goes on from here -/
theorem Aloft.onward {A : Around} {α : Type} {Q : α → Shared → Prop} {E : Value → Shared → Prop} {what : String} {fl : Value} (t : Top X) (x : Aloft Zc X B sI pins σ H c d a s)
    (st : B.StaysIn s.heap) (n : B.get? a = none) (ff : s.heap.FunFrames B (X.env :: X.outer)) (tr : HandSPX.TracedZ s.heap B a (Zc c d) fl) (q : ∀ s', Aloft Zc X B sI pins σ H c d a s' → E (.ref a) s') :
    wpAny (model X.prog X.w) A (PySem.passOn what (.ref a) X.env : Sem α) Q E s := by
  obtain ⟨oe, vs, T, oT, ts, k1, k2, k3, k4, k5⟩ := id tr
  have go : wpAny (model X.prog X.w) A (setFlight (.ref a) X.env.frame) (fun _ s' => wpAny (model X.prog X.w) A (throw (.ref a) : Sem α) Q E s') E s := by
    rw [t.frm]
    exact HandSPX.setFlight_anyZ st ff tr fun h' y1 y2 y3 y4 => wpAny_throw (q _ ⟨x.inv, x.gnd, x.up.trans y4, t.stk ▸ .inr (.inr ⟨y1, n, y2, y3⟩), x.na, x.os, x.ag⟩)
  refine wpAny_bind (wpAny_field k1 k3 k4 ?_)
  show wpAny _ _ (if (Value.ref T == Value.none) = true then _ else _) _ _ _
  rw [if_neg (by simp)]
  first
    | exact wpAny_bind go
    | exact wpAny_bind (wpAny_pure (wpAny_bind go))
theorem Got.aloft (g : Got Z X B sI pins σ H c d a s) (k : Kind Z) : Aloft Zc X B sI pins σ H c d a s :=
  ⟨g.inv, g.gnd, g.up, .inr (.inl (g.top.stk ▸ L2H.flyingZ_imp (fun _ z => k.zc z) g.fl)), g.na, g.os, g.ag⟩
/-- no clause is left -/
theorem Got.onward {Q : Flow → Shared → Prop} {W : WX} (k : Kind Z) (g : Got Z X B sI pins σ H c d a s) (tk : L2.Takes X W) (w : W c d σ H) : wpAny (model X.prog X.w) X.A (handleBy (.ref a) X.env []) Q X.xe s :=
  wpAny_handleBy_nil ((g.aloft k).onward g.top g.fl.1 g.fl.2.1 g.fl.2.2.1 (L2H.tracedZ_imp (fun _ z => k.zc z) g.fl.2.2.2) fun _ y => tk _ _ (y.xe w))
end
section
variable {X : Cx} {pins : List (Addr × Obj)} {σ : L2.St} {H : Hp} {s : Shared}
/-- h' is h but for the object at L -/
def Off (L : Addr) (h h' : Heap) : Prop := ∀ b, b ≠ L → h'.get? b = h.get? b
theorem Off.cell {L b : Addr} {h h' : Heap} {v : Option Value} (f : Off L h h') (n : b ≠ L) : h.IsCell b v → h'.IsCell b v := fun ⟨o, e, d⟩ => ⟨o, (f b n).trans e, d⟩
theorem Off.un {fs ex : List Addr} {H' : Hp} {L : Addr} {h0 h h' : Heap} (u : Un fs ex H' H h0 h) (f : Off L h h') (n : ∀ b o, h0.get? b = some o → b ≠ L) : Un fs ex H' H h0 h' where
  keep b o e z i j := (f b (n b o e)).trans (u.keep b o e z i j)
  slot b o e z i j := (u.slot b o e z i j).imp fun _ q => (f b (n b o e)).trans q
  free := u.free
  there b o e j := (u.there b o e j).imp fun _ q => (f b (n b o e)).trans q
  tups := u.tups
  frzs := u.frzs
  tbls := u.tbls
theorem Off.hok {P : Program} {w : World} {L : Addr} {h h' : Heap} (k : HOk P w H h) (f : Off L h h') (n : H L = none) : HOk P w H h' := fun b o e =>
  (k b o e).stay (fun x u way q => (f x fun z => way.elim (fun w => by rw [← w, z, n] at e; cases e) fun w => by rw [z, n] at w; cases w).trans q) (fun _ q => q) fun _ _ q => q
/-- n's slot is told to be empty: whatever its name stands for -/
theorem Inv.lose {i : Nat} {n : Str} {m : Str → Option Value} {v : Option Value} {h' : Heap} {t' : Nat} (I : Inv X pins σ H s) (hN : X.N.Nodup) (hi : X.N[i]? = some n)
    (look : ∀ (j : Nat) (y : Str) (v' : V), X.N[j]? = some y → σ[j]? = some (some v') → Vis X.env.scope y → ∃ u, RelV v' u ∧ Look X.env s.heap m y u)
    (tab : h'.Ns X.env.locals (fun x => if x = n then v else m x)) (f : Off X.env.locals s.heap h') : Inv X pins (σ.set i none) H { s with heap := h', toks := t' } where
  ok := I.ok
  os := I.os
  bare := I.bare
  base := f.un I.base fun _ _ e => Nat.ne_of_lt (Nat.lt_of_lt_of_le (Heap.lt_size e) I.ok.above)
  loc := ⟨_, tab, fun j y v' e1 e2 vis => by
    have ji : i ≠ j := fun z => by
      subst z
      rw [List.getElem?_set_self (by simpa using (List.getElem?_eq_some_iff.mp e2).1)] at e2
      cases e2
    obtain ⟨u, r, q⟩ := look j y v' e1 ((List.getElem?_set_ne ji).symm.trans e2) vis
    exact ⟨u, r, q.imp (fun ⟨k, e⟩ => ⟨k, (if_neg fun z : y = n => ji (nodup_ix hN hi (z ▸ e1))).trans e⟩) fun ⟨k, c, e, z⟩ => ⟨k, c, e, f.cell (I.cne y c e) z⟩⟩⟩
  cell y c e := (I.cell y c e).imp fun _ z => f.cell (I.cne y c e) z
  free := I.free
  freeC := I.freeC
  pin p hp := ⟨(f _ (I.pin p hp).2.2.1).trans (I.pin p hp).1, (I.pin p hp).2⟩
  hok := f.hok I.hok I.free
  len := (List.length_set ..).trans I.len
end
end ZT
namespace ZT
open PySem PySem.Spec PyProof.Rows L2
theorem frames_off {L : Addr} {h h' B : Heap} (f : Off L h h') {o' : Obj} (e' : h'.get? L = some o') (nf : ∀ vs, o'.data ≠ .fields vs) : ∀ l : List Env, h.FunFrames B l → h'.FunFrames B l
  | [], _ => trivial
  | _ :: l, ⟨k, ⟨F, o, e, b, q, d⟩, r⟩ => ⟨k, if z : F = L then ⟨F, o', e, b, z ▸ e', nf⟩ else ⟨F, o, e, b, (f F z).trans q, d⟩, frames_off f e' nf l r⟩
/-- the wish with the clause's slot emptied -/
abbrev offO (oi : Option Nat) (W : WX) : WX := match oi with
  | none => W
  | some i => fun cls d σ H => W cls d (σ.set i none) H
/-- the context of a suite, F about what leaves it -/
abbrev sctx (X : Cx) (a : Addr) (pn : List (Addr × Obj)) (F : Value → Shared → Prop) : Cx := { X with A := X.A.mark (some (.ref a)), calm := false, pn := pn, xe := F }
def Named (X : Cx) : Option Str → Option Nat → Prop
  | none, none => True
  | some n, some i => X.N[i]? = some n ∧ X.env.kindOf n = some .local
  | _, _ => False
/-- an error that leaves the suite, as the handler wants it -/
def Leaves (X : Cx) (a : Addr) (pos : Pos) (e : Value) (s : Shared) : Option Str → Prop
  | none => notedBy (model X.prog X.w) (X.A.mark (some (.ref a))) X.env (cameBackBy (model X.prog X.w) X.A X.env X.xe) e s
  | some n => AsSuiteRaised (model X.prog X.w) (X.A.mark (some (.ref a))) X.env n pos (notedBy (model X.prog X.w) (X.A.mark (some (.ref a))) X.env (cameBackBy (model X.prog X.w) X.A X.env X.xe)) e s
section
variable {X : Cx} {pins : List (Addr × Obj)} {σ : L2.St} {H : Hp} {s : Shared} {W : WX}
theorem notClass (ok : X.Ok) : (X.env.scope.kind == .class || (X.env.scope.kind == .module && X.env.locals != X.env.globals)) = false := by rw [ok.kind]; rfl
/-- an error leaves a suite that has a name: noted, the name gone, on -/
theorem leaves_named {i : Nat} {n : Str} {pos : Pos} {a : Addr} {e : Value} (t : Top X) (hN : X.N.Nodup) (hi : X.N[i]? = some n) (hl : X.env.kindOf n = some .local) (tk : L2.Takes X W)
    (hpa : PassesOwnAt (model X.prog X.w) (X.A.mark (some (.ref a))) X.A X.env X.xe) (x : L2.XE X (offO (some i) W) e s) : Leaves X a pos e s (some n) := by
  obtain ⟨b, B, sI, pins, σ, H, c, d, rfl, al, w⟩ := aloft_of x
  refine al.note t (t.frames _) fun h3 held al3 => ?_
  obtain ⟨st, nb, ff, tr⟩ := id held
  obtain ⟨m, ⟨oI, es, ep, gI, dI, more⟩, look⟩ := al.inv.loc
  obtain ⟨sl, g3⟩ := al3.up _ _ gI fun vs z => by rw [dI] at z; cases z
  have inL : X.env.locals ∈ (X.env :: X.outer).filterMap (·.frame) := List.mem_filterMap.mpr ⟨X.env, List.mem_cons_self, t.frm⟩
  refine wpAny_nameGoes_keeps hl (m := m) ⟨_, es, ep, g3, dI, more⟩ (notClass t.ok) fun h4 v tab same => ?_
  obtain ⟨o4, es4, ep4, g4, d4, more4⟩ := id tab
  have off : Off X.env.locals h3 h4 := same.2
  have notL : ∀ u o, B.get? u = some o → u ≠ X.env.locals := fun u o q z => Option.some_ne_none _ ((z ▸ q).symm.trans (ff.mem inL).1)
  have record : ∀ {u : Addr} {o : Obj} {vs : Array Value}, h3.get? u = some o → o.data = .fields vs → h4.get? u = some o := fun {u o vs} q dd => (off u fun z => by
    rw [z, g3] at q
    cases q
    rw [dI] at dd
    cases dd).trans q
  -- the state without the error: its table is the one that stands
  have gS : (sI.heap.update X.env.locals fun _ => o4).get? X.env.locals = some o4 := Heap.get?_update_self _ gI (by obtain ⟨_, _, _, _⟩ := o4; cases d4; rfl)
  have oS : Off X.env.locals sI.heap (sI.heap.update X.env.locals fun _ => o4) := fun u z => Heap.get?_update_other _ _ (Ne.symm z)
  have I4 : Inv X pins (σ.set i none) H { sI with heap := sI.heap.update X.env.locals fun _ => o4, toks := sI.toks } := Inv.lose al.inv hN hi look ⟨o4, es4, ep4, gS, d4, more4⟩ oS
  have held4 : HandSPX.HeldZ B (X.env :: X.outer) b (Zc c d) X.env.locals h4 := by
    obtain ⟨oe, vs, T, oT, ts, k1, k2, k3, k4, k5, k6, k7, k8, k9⟩ := tr
    exact ⟨fun u o q => (off u (notL u o q)).trans (st u o q), nb, frames_off off g4 (fun vs z => by rw [d4] at z; cases z) _ ff, oe, vs, T, oT, ts, record k1 k3, k2, k3, k4, k5, k6, record k7 k8, k8, k9⟩
  have al4 : Aloft Zc X B { sI with heap := sI.heap.update X.env.locals fun _ => o4, toks := sI.toks } pins (σ.set i none) H c d b { s with heap := h4, toks := s.toks + 1 } := by
    refine ⟨I4, fun u o q nu => al.gnd u o ((oS u fun z => nu (z ▸ t.stk ▸ inL)).symm.trans q) nu, fun u o q nf => ?_, .inr (.inr (t.stk ▸ held4)), al.na, al.os, al.ag⟩
    by_cases z : u = X.env.locals
    · subst z
      cases gS.symm.trans q
      exact ⟨o4.slots, g4⟩
    · exact (al3.up u o ((oS u z).symm.trans q) nf).imp fun _ y => (off u z).trans y
  obtain ⟨y1, y2, y3, y4⟩ := held4
  exact al4.onward t y1 y2 y3 y4 fun s' y => hpa _ _ (tk _ _ (y.xe w))
end
end ZT
namespace ZT
open PySem PySem.Spec PyProof.Rows L2
/-- the names in a clause's tuple -/
inductive NsL (X : Cx) : List Expr → List Value → Prop
  | nil : NsL X [] []
  | cons {x : Str} {c : Value} {np : Pos} {es : List Expr} {cs : List Value} (hc : Names X x c) (r : NsL X es cs) : NsL X (.Name x np :: es) (c :: cs)
/-- a clause's classes, by what they answer -/
inductive Test (X : Cx) : Expr → (Value → Option Bool) → Prop
  | one {x : Str} {c : Value} {np : Pos} (hc : Names X x c) : Test X (.Name x np) (fun cls => PySem.W.exmOne X.K cls c)
  | tup {es : List Expr} {cs : List Value} {k : Nat} {np : Pos} (h : NsL X es cs) (z : cs.length = 2 ∨ cs.length = 3 ∨ cs.length = 4) : Test X (.Tuple es k np) (fun cls => PySem.W.exmAny X.K cls cs)
section
variable {Z : Value → Option Addr → Obj → Prop} {X : Cx} {B : Heap} {sI s : Shared} {pins : List (Addr × Obj)} {σ : L2.St} {H : Hp} {c : Value} {d : Option Addr} {a : Addr}
/-- the state as a suite's -/
theorem Got.suite (g : Got Z X B sI pins σ H c d a s) : ∃ oe, Z c d oe ∧ (∃ vs, oe.data = .fields vs) ∧ X.base.get? a = none ∧ s.heap.get? a = some oe ∧ ∀ F, Inv (sctx X a ((a, oe) :: (X.pn ++ pins)) F) [] σ H s := by
  obtain ⟨oe, vs, he, hz, hd, nl, nf, nb⟩ := g.apart
  exact ⟨oe, hz, ⟨vs, hd⟩, nb, he, fun F => Inv.unwish (X := sctx X a _ F) (E := fun _ _ => False) (g.here.suite he hd g.na nl nf)⟩
theorem suite_end {F : Value → Shared → Prop} {q : Addr × Obj} {pn' : List (Addr × Obj)} {σ : L2.St} {H : Hp} {s : Shared} (ok : X.Ok) (I : Inv (sctx X a (q :: (X.pn ++ pins)) F) pn' σ H s) : Inv X pins σ H s :=
  have J : Inv (X.suite a (q :: (X.pn ++ pins))) pn' σ H s := I.wish fun _ _ => False
  J.unsuite ok
theorem name_ld {x : Str} {v : Value} {np : Pos} {pn : List (Addr × Obj)} {Q E : Value → Shared → Prop} (I : Inv (X.suite a pn) [] σ H s) (hc : Names X x v) (q : Q v s) : wpAny (model X.prog X.w) (X.A.mark (some (.ref a))) (eval (.Name x np) X.env) Q E s :=
  match hc with
  | ⟨g, dbg, .inl m⟩ => ld_glob (X := X.suite a pn) I g m q dbg
  | ⟨g, dbg, .inr ⟨m, v, nn⟩⟩ => ld_blt (X := X.suite a pn) I g m v q nn dbg
theorem names_ld {es : List Expr} {cs : List Value} {pos : Pos} {pn : List (Addr × Obj)} {E : Value → Shared → Prop} (I : Inv (X.suite a pn) [] σ H s) (hn : NsL X es cs) : ∀ {Q : List Value → Shared → Prop}, Q cs s → wpAny (model X.prog X.w) (X.A.mark (some (.ref a))) (spliced (backTo pos (starEach es X.env))) Q E s := by
  induction hn with
  | nil => exact fun q => wpAny_items_nil q
  | cons hc _ ih => exact fun q => wpAny_items_cons (name_ld I hc (ih q))
theorem Test.run {te : Expr} {ans : Value → Option Bool} {b : Bool} {G : Bool → Shared → Prop} {E1 E2 : Value → Shared → Prop} (t : Test X te ans) (k : Kind Z) (g : Got Z X B sI pins σ H c d a s) (hb : ans c = some b)
    (q : ∀ h', Got Z X B sI pins σ H c d a { s with heap := h' } → G b { s with heap := h' }) :
    wpAny (model X.prog X.w) (X.A.mark (some (.ref a))) (eval te X.env) (fun v s₁ => wpAny (model X.prog X.w) (X.A.mark (some (.ref a))) (excMatches (.ref a) v) G E2 s₁) E1 s := by
  obtain ⟨oe, hz, -, -, he, J⟩ := g.suite
  have I := J fun _ _ => False
  have ty : PySem.W.Looks (model X.prog X.w) s.heap (typeOf (.ref a)) c := (k.zc hz).1 ▸ lk_type he
  cases t with
  | one hc => exact name_ld I hc ((PySem.W.exm_one I.kIn ty hb).here (q _ g))
  | @tup es cs n np hn z =>
    refine wpAny_Tuple (names_ld I hn ⟨by have := sizeLine_eq; omega, ?_⟩)
    have more : ∀ b o, s.heap.get? b = some o → (s.heap.push { cls := .type "tuple", data := .seq cs.toArray }).get? b = some o := fun b o e => Heap.get?_push_of_some _ e
    have at_ := Heap.get?_push_size s.heap (o := { cls := .type "tuple", data := .seq cs.toArray }) rfl
    have fin := q _ (g.grow { cls := .type "tuple", data := .seq cs.toArray })
    match cs, z, hb with
    | [_, _], _, hb => exact (PySem.W.exm_tup2 (I.kIn.keeps more) (ty.keeps more) at_ hb).here fin
    | [_, _, _], _, hb => exact (PySem.W.exm_tup3 (I.kIn.keeps more) (ty.keeps more) at_ hb).here fin
    | [_, _, _, _], _, hb => exact (PySem.W.exm_tup4 (I.kIn.keeps more) (ty.keeps more) at_ hb).here fin
end
/-- how a suite is walked: it lets nothing out, or it may raise -/
inductive Suite (Z : Value → Option Addr → Obj → Prop) (X : Cx) (W : WX) (oi : Option Nat) (body : List Stmt) (ts : Addr → Value → Option Addr → TS) : Prop
  | calm (h : ∀ (a : Addr) (oe : Obj) (cls : Value) (d : Option Addr) (pn : List (Addr × Obj)), Z cls d oe → (∃ vs, oe.data = .fields vs) → X.base.get? a = none → PSs (X.suite a ((a, oe) :: pn)) body (ts a cls d))
  | loud (hpa : ∀ hd : Option Value, PassesOwnAt (model X.prog X.w) (X.A.mark hd) X.A X.env X.xe)
      (h : ∀ (a : Addr) (oe : Obj) (cls : Value) (d : Option Addr) (pn : List (Addr × Obj)), Z cls d oe → (∃ vs, oe.data = .fields vs) → X.base.get? a = none → L2.Takes (sctx X a ((a, oe) :: pn) (L2.XE X (offO oi W))) (offO oi W) →
        PSs (sctx X a ((a, oe) :: pn) (L2.XE X (offO oi W))) body (ts a cls d))
abbrev HL := List ((Value → Option Bool) × Option Nat × (Addr → Value → Option Addr → TS))
inductive Arms (Z : Value → Option Addr → Obj → Prop) (X : Cx) (W : WX) : List ExceptHandler → HL → Prop
  | nil : Arms Z X W [] []
  | cons {te : Expr} {nm : Option Str} {oi : Option Nat} {ans : Value → Option Bool} {ts : Addr → Value → Option Addr → TS} {b₀ : Stmt} {suite : List Stmt} {pos : Pos} {hds : List ExceptHandler} {l : HL} (t : Test X te ans) (n : Named X nm oi) (u : Suite Z X W oi (b₀ :: suite) ts)
      (r : Arms Z X W hds l) : Arms Z X W (.ExceptHandler (some te) nm (b₀ :: suite) pos :: hds) ((ans, oi, ts) :: l)
def endO (D : Ends) : Option Nat → Ends
  | none => D
  | some i => { nx := fun σ' H' => D.nx (σ'.set i none) H', rt := D.rt, bk := fun σ' H' => D.bk (σ'.set i none) H', ct := fun σ' H' => D.ct (σ'.set i none) H' }
def slotO (σ : L2.St) (a : Addr) : Option Nat → L2.St
  | none => σ
  | some i => σ.set i (some (.ref a))
/-- what the clauses wish of an error of the body -/
def wArms (W : WX) (D : Ends) : HL → WX
  | [] => W
  | (ans, oi, ts) :: r => fun cls d σ H => ∃ b, ans cls = some b ∧ (b = true → ∀ a, H a = none → ts a cls d (endO D oi) (slotO σ a oi) H) ∧ (b = false → wArms W D r cls d σ H)
section
variable {Z : Value → Option Addr → Obj → Prop} {X : Cx} {W : WX} {pins : List (Addr × Obj)}
/-- the suite's end is the statement's -/
theorem end_carry {X₁ : Cx} {p₁ : List (Addr × Obj)} {D : Ends} {f : Flow} {s : Shared} (g : ∀ σ H, Inv X₁ p₁ σ H s → Inv X pins σ H s) (h : SP X₁ p₁ D f s) : SP X pins D f s := by
  cases f
  case ret => exact h.imp fun v => Exists.imp fun σ => Exists.imp fun H q => ⟨g σ H q.1, q.2⟩
  all_goals exact Exists.imp (fun σ => Exists.imp fun H q => ⟨g σ H q.1, q.2⟩) h
theorem end_unname {i : Nat} {n : Str} {pos : Pos} {D : Ends} {f : Flow} {s : Shared} {M : Model} {A : Around} {E : Value → Shared → Prop} (hN : X.N.Nodup) (hi : X.N[i]? = some n) (hl : X.env.kindOf n = some .local) (h : SP X pins (endO D (some i)) f s) :
    wpAny M A (do bindName X.env n .none; unbindBehindTheSuite X.env n pos) (fun _ s' => SP X pins D f s') E s := by
  cases f
  case ret => exact let ⟨v, σ, H, I, r, q⟩ := h; gone_ok I hN hi hl fun _ J => ⟨v, _, H, J, r, q⟩
  all_goals exact let ⟨σ, H, I, q⟩ := h; gone_ok I hN hi hl fun _ J => ⟨_, H, J, q⟩
/-- the suite runs behind its clause's test -/
theorem suite_run {B : Heap} {sI s : Shared} {σ : L2.St} {H : Hp} {cls : Value} {d : Option Addr} {a : Addr} {D : Ends} {oi : Option Nat} {nm : Option Str} {body : List Stmt} {ts : Addr → Value → Option Addr → TS} (hN : X.N.Nodup) (g : Got Z X B sI pins σ H cls d a s) (tk : L2.Takes X W)
    (n : Named X nm oi) (u : Suite Z X W oi body ts) (w : ts a cls d (endO D oi) (slotO σ a oi) H) (pos : Pos) (s' : Shared) (oe : Obj) (hz : Z cls d oe) (hd : ∃ vs, oe.data = .fields vs) (nb : X.base.get? a = none)
    (I : ∀ F, Inv (sctx X a ((a, oe) :: (X.pn ++ pins)) F) [] (slotO σ a oi) H s') :
    wpAny (model X.prog X.w) (X.A.mark (some (.ref a))) (execs body X.env) (fun f s₁ => SP X pins (endO D oi) f s₁) (fun e s₁ => Leaves X a pos e s₁ nm) s' := by
  cases u with
  | calm h => exact wpAny_mono ((h a oe cls d (X.pn ++ pins) hz hd nb).run [] s' _ H _ (I _) w) (fun _ _ => end_carry fun _ _ => suite_end g.top.ok) fun _ _ => False.elim
  | loud hpa h =>
    have own : L2.Takes (sctx X a ((a, oe) :: (X.pn ++ pins)) (L2.XE X (offO oi W))) (offO oi W) := fun u s2 x => by
      obtain ⟨b, B2, sI2, p2, σ2, H2, c2, d2, rfl, al, w2⟩ := aloft_of x
      exact Aloft.xe ⟨suite_end g.top.ok al.inv, al.gnd, al.up, al.sky, al.na, al.os, al.ag⟩ w2
    refine wpAny_mono ((h a oe cls d (X.pn ++ pins) hz hd nb own).run [] s' _ H _ (I _) w) (fun _ _ => end_carry fun _ _ => suite_end g.top.ok) fun e s2 x => ?_
    match nm, oi, n with
    | none, none, _ => exact hpa _ e s2 (tk e s2 x)
    | some _, some _, ⟨hi, hl⟩ => exact leaves_named g.top hN hi hl tk (hpa _) x
theorem arms_run {B : Heap} {sI : Shared} {σ : L2.St} {H : Hp} {cls : Value} {d : Option Addr} {a : Addr} {D : Ends} {hds : List ExceptHandler} {l : HL} (k : Kind Z) (hN : X.N.Nodup) (tk : L2.Takes X W) (hh : Arms Z X W hds l) : ∀ {s : Shared}, Got Z X B sI pins σ H cls d a s → wArms W D l cls d σ H →
    wpAny (model X.prog X.w) X.A (handleBy (.ref a) X.env hds) (SP X pins D) X.xe s := by
  induction hh with
  | nil => exact fun g w => g.onward k tk w
  | @cons te nm oi ans ts b₀ suite pos hds l t n u r ih =>
    intro s g ⟨b, hb, yes, no⟩
    refine wpAny_handleBy_cons (codeAny_handlers_test (t.run k g hb fun h1 g1 => ?_)) (fun z => by cases z)
    cases b with
    | false => exact ih g1 (no rfl)
    | true =>
      have w := yes rfl a g.na
      match nm, oi, n, u, w with
      | none, none, n, u, w =>
        refine codeAny_handlers_suite (g1.again fun h2 g2 => ?_)
        obtain ⟨oe, hz, hd, nb, -, I⟩ := g2.suite
        exact suite_run hN g2 tk n u w pos _ oe hz hd nb I
      | some n, some i, hn, u, w =>
        refine codeAny_handlers_suite_as (g1.again fun h2 g2 => ?_)
        obtain ⟨oe, hz, hd, nb, -, I⟩ := g2.suite
        refine store_ok (X := X.suite a ((a, oe) :: (X.pn ++ pins))) (v := .ref a) (I _) hN hn.1 (.inl hn.2) rfl (fun s3 I3 => ?_) (.inr hn.2)
        exact wpAny_mono (suite_run (oi := some i) hN g2 tk hn u w pos s3 oe hz hd nb fun F => Inv.unwish (X := sctx X a _ F) (E := fun _ _ => False) I3) (fun f s4 q => end_unname hN hn.1 hn.2 q) fun _ _ q => q
end
section
variable {Z : Value → Option Addr → Obj → Prop} {X : Cx} {W : WX} {body : List Stmt} {h₀ : ExceptHandler} {hds : List ExceptHandler} {l : HL} {pos : Pos} {tb : WX → TS}
/-- try: body, except ..: .., its clauses of any kind -/
theorem ps_try_arms (k : Kind Z) (hs : X.stack = X.env :: X.outer) (hf : X.env.frame = some X.env.locals) (hN : X.N.Nodup) (tk : L2.Takes X W)
    (hb : ∀ (V : WX) (pn : List (Addr × Obj)) (xe : Value → Shared → Prop), (∀ a B sI pins σ H c d s, Aloft Z (X.tr pn xe) B sI pins σ H c d a s → V c d σ H → xe (.ref a) s) → PassesOwn (model X.prog X.w) X.A X.env xe → PSs (X.tr pn xe) body (tb V))
    (hh : Arms Z X W (h₀ :: hds) l) : PS X (.Try body (h₀ :: hds) [] [] pos) (fun D σ H => tb (wArms W D l) D σ H) where
  run pins s σ H D I := fun h => by
    have t : Top X := ⟨I.ok, hs, hf⟩
    refine wpAny_Try_except (wpAny_mono ((hb (wArms W D l) (X.pn ++ pins) _ (fun a B sI p σ' H' c d s' al w => ?_) PassesOwn.looking).run [] s σ H D (I.toTry _) h) (fun f s1 q => ?_) fun _ _ q => q)
    · exact Aloft.land k t ⟨al.inv.ofTry t.ok, al.gnd, al.up, al.sky, al.na, al.os, al.ag⟩ (t.frames none) fun h' g => arms_run k hN tk hh g w
    · have q' : SP X pins D f s1 := end_carry (fun _ _ J => J.ofTry t.ok) q
      cases f
      case next => exact wpAny_execs_nil q'
      all_goals exact q'
end
end ZT
namespace Z
open PySem PySem.Spec PyProof.Rows L2
/-- i // j, where j may be 0 -/
def tFdivZ (W : WX) (ta tb : TE) : TE := fun σ H Q => ta σ H fun x H1 => tb σ H1 fun y H2 => ∃ i j, x = .int i ∧ y = .int j ∧ ((CDivX i j ∧ Q (.int (i.fdiv j)) H2) ∨ (j = 0 ∧ ∀ d, W (.type "ZeroDivisionError") d σ H2))
theorem pe_fdivZ {X : Cx} {W : WX} {a b : Expr} {ta tb : TE} {pos : Pos} (hc : X.calm = true) (tk : L2N.Takes X W) (ha : PE X a ta) (hb : PE X b tb) : PE X (.BinOp a .FloorDiv b pos) (tFdivZ W ta tb) := by
  refine ⟨fun pins s σ H Q I h => ?_⟩
  refine wpAny_BinOp (binT ha hb I (R := fun x y H2 => ∃ i j, x = .int i ∧ y = .int j ∧ ((CDivX i j ∧ Q (.int (i.fdiv j)) H2) ∨ (j = 0 ∧ ∀ d, W (.type "ZeroDivisionError") d σ H2))) h fun v u s2 x y H2 I2 rx ry q => ?_)
  obtain ⟨i, j, ex, ey, q⟩ := q
  rcases q with q | ⟨j0, w⟩
  · exact op_fdivX pins s2 σ H2 x y v u Q I2 rx ry ⟨i, j, ex, ey, q.1, q.2⟩
  · subst ex ey
    obtain ⟨t, rfl⟩ := (show ∃ t, v = Value.int i t from rx)
    obtain ⟨t', rfl⟩ := (show ∃ t, u = Value.int j t from ry)
    exact PySem.AutoIntOps.floordiv_0 (by rw [j0]; rfl) ⟨I2.ok.hd hc, fun h' tk' e hx => L2N.takes_newN (t' := tk') tk I2 hx w⟩
end Z
namespace L2H
open PySem PySem.Spec PyProof.Rows L2 HotX
abbrev offW (i : Nat) (W : WX) : WX := ZT.offO (some i) W
/-- the context of a named clause that may raise -/
abbrev suiteE (X : Cx) (W : WX) (a : Addr) (pn : List (Addr × Obj)) : Cx := ZT.sctx X a pn (L2.XE X W)
section
variable {X : Cx} {i : Nat} {n x : Str} {c : Value} {body suite : List Stmt} {b₀ : Stmt} {np pos pos' : Pos} {tb : WX → TS} {ts : Addr → Value → Option Addr → TS} {Wout : WX}
/-- one clause that names its error, and may raise: the error's own context is None, so a raise within is walked -/
theorem ps_try_asX (hs : X.stack = X.env :: X.outer) (hf : X.env.frame = some X.env.locals) (hN : X.N.Nodup) (hi : X.N[i]? = some n) (hln : X.env.kindOf n = some .local) (hc : Names X x c)
    (hpa : ∀ hd : Option Value, PassesOwnAt (model X.prog X.w) (X.A.mark hd) X.A X.env X.xe) (tk : L2.Takes X Wout)
    (hb : ∀ (W : WX) (pn : List (Addr × Obj)) (xe : Value → Shared → Prop), L2N.Takes (X.tr pn xe) W → PassesOwn (model X.prog X.w) X.A X.env xe → PSs (X.tr pn xe) body (tb W))
    (hsu : ∀ (a : Addr) (oe : Obj) (cls : Value) (d : Option Addr) (pn : List (Addr × Obj)), L2N.Zn cls d oe → (∃ vs, oe.data = .fields vs) → L2.Takes (suiteE X (offW i Wout) a ((a, oe) :: pn)) (offW i Wout) → Hot1 (suiteE X (offW i Wout) a ((a, oe) :: pn)).A (a, oe) →
      PSs (suiteE X (offW i Wout) a ((a, oe) :: pn)) (b₀ :: suite) (ts a cls d)) :
    PS X (.Try body [.ExceptHandler (some (.Name x np)) (some n) (b₀ :: suite) pos'] [] [] pos) (fun D σ H => tb (wAs X.K c i ts Wout D) D σ H) :=
  ZT.ps_try_arms (l := [(fun cls => PySem.W.exmOne X.K cls c, some i, ts)]) ZT.kind_n hs hf hN tk (fun W pn xe hx po => hb W pn xe (fun u s' x => by
    obtain ⟨a, B, sI, pins, σ, H, c, d, rfl, al, w⟩ := ZT.aloft_ofN x
    exact hx a B sI pins σ H c d s' al w) po)
    (.cons (oi := some i) (.one hc) ⟨hi, hln⟩ (.loud hpa fun a oe cls d pn hz hd _ tk => hsu a oe cls d pn hz hd tk ⟨rfl, hd.imp fun vs e => ⟨e, hz.2.2 vs e⟩⟩) .nil)
end
end L2H
namespace Z
open PySem PySem.Spec PyProof.Rows L2
section
variable {X : Cx} {C : Addr} {x m : Str} {j : Nat} {p p2 pos : Pos}
/-- the class C called with one value: what it makes has its six fields -/
theorem call_six {B newId initId : String} {tl : List Value} {pins : List (Addr × Obj)} {σ : L2.St} {H : Hp} {s : Shared} {Q : XK} {u : Value} (F : ExcBaseFacts B newId initId tl) (q : PySem.W.excIn X.K C tl newId = true) (r : Raises X (.ref C)) (I : Inv X pins σ H s) (h : Q (.ref C) none H) :
    wpAny (model X.prog X.w) X.A (call (.ref C) [u]) (fun v s' => L2N.MkP X pins σ Q v s' ∧ L2H.Six v s') X.xe s :=
  let ⟨_, _, _, _, _, _, _, _, _, _, _, _, _, _, _, _, _, hC, hN, hni, T⟩ := exc_obj I.kIn q
  wpAny_call_exc_subT F T hC hN hni (fun _ _ made => L2H.mk_of5 I made r h (I.hok.gone made.new)) (show (1 : Nat) ≤ sizeLine from sizeLine_eq ▸ by omega)
theorem pmk_e05 (G : Exc0 X.K X.mg x C) (hg : Gl X x) (hdb : (x == ("__debug__" : Str)) = false := by decide) : L2H.PMk5 X (.Call (.Name x p) [.Constant (.str m) j p2] [] pos) (fun _ H Q => Q (.ref C) none H) := fun pins s σ H Q I h =>
  let ⟨_, _, _, _, F, q⟩ := G.ex
  wpAny_Call_Name_kw (ld_glob I hg G.mg (PySem.W.callWith_K (h₀ := X.base) I.ok.mod.kin G.kp (thn ((pa_cons (pe_str (x := m)) pa_nil).run pos pins s σ H (fun vs H1 => vs = [V.str m] ∧ H1 = H) I ⟨rfl, rfl⟩) fun us s1 told => by
    obtain ⟨_, _, J, told, rfl, rfl⟩ := told
    match us, told with
    | [_], .cons _ .nil => exact ⟨J.kIn, call_six F q (raises_own G.r1 G.r2) J h⟩)) hdb)
end
section
variable {K : PySem.W.Frag} {τ : T} {μ : M} {Φ : D → M → Prop} {N : AEnds} {ta tb : TE}
theorem a_fdivZ (hc : N.cn "ZeroDivisionError" = some (.type "ZeroDivisionError")) (h : AE K ta τ μ fun x μ1 => AE K tb τ μ1 fun y μ2 => ∃ i j, x = .int i ∧ y = .int j ∧ (j ≠ 0 → CDivX i j ∧ Φ (.int (i.fdiv j)) μ2) ∧ (j = 0 → ∀ dx, N.xs "ZeroDivisionError" dx τ μ2)) :
    AEX K (tFdivZ N.W ta tb) τ μ N Φ := fun σ H s c Q k kx =>
  h σ H s c _ fun x μ1 v H1 f1 c1 r1 p1 => p1 σ H1 (s.mono (f1.tx c)) c1 _ fun y μ2 u H2 f2 c2 r2 ⟨i, j, ex, ey, q1, q2⟩ => by
    subst ex ey
    cases r1
    cases r2
    refine ⟨i, j, rfl, rfl, ?_⟩
    by_cases hj : j = 0
    · exact .inr ⟨hj, fun dx => kx "ZeroDivisionError" dx μ2 _ H2 hc (f1.trans f2) c2 (q2 hj dx)⟩
    · exact .inl ⟨(q1 hj).1, k (.int (i.fdiv j)) μ2 _ H2 (f1.trans f2) c2 (.int _) (q1 hj).2⟩
theorem slots_unset {H : Hp} {τ2 : T} {σ2 : L2.St} (i : Nat) (s2 : Slots K H τ2 σ2) : Slots K H (τ2.set i none) (σ2.set i none) := by
  refine ⟨by rw [List.length_set, List.length_set]; exact s2.1, fun j d e => ?_⟩
  by_cases hj : i = j
  · subst hj
    by_cases hi : i < τ2.length
    · rw [List.getElem?_set_self hi] at e; cases e
    · rw [List.getElem?_eq_none (by rw [List.length_set]; omega)] at e; cases e
  · rw [List.getElem?_set_ne hj] at e ⊢
    exact s2.2 j d e
/-- try .. except X as n, where the clause may raise -/
theorem s_tryAsX (cn : Str → Option Value) {tb : WX → TS} {tu : Addr → Value → Option Addr → TS} {c : Value} {i : Nat} (hit : Str → Bool) (hm : ∀ x cls, cn x = some cls → PySem.W.exmOne K cls c = some (hit x))
    (hb : ∀ W, AS K (tb W) τ μ { N with W := W, cn := cn, xs := fun x dx τ' μ' => (hit x = true ∧ ∀ a cls, cn x = some cls → AS K (tu a cls dx) (τ'.set i (some (.ref a))) μ'
      { nx := fun τ2 μ2 => N.nx (τ2.set i none) μ2, rt := N.rt, bk := fun τ2 μ2 => N.bk (τ2.set i none) μ2, ct := fun τ2 μ2 => N.ct (τ2.set i none) μ2, W := L2H.offW i N.W, cn := N.cn, xs := fun x dx τ2 μ2 => N.xs x dx (τ2.set i none) μ2 }) ∨ (hit x = false ∧ N.cn x = cn x ∧ N.xs x dx τ' μ') }) :
    AS K (fun D σ H => tb (wAs K c i tu N.W D) D σ H) τ μ N := fun σ H s cc E k => by
  refine hb (wAs K c i tu N.W E) σ H s cc E ⟨k.nx, k.rt, k.bk, k.ct, fun x dx τ' μ' cls σ' H' ec f c' s' q => ?_⟩
  refine ⟨hit x, hm x cls ec, fun hx a na => ?_, fun hx => ?_⟩
  · rcases q with ⟨_, q⟩ | ⟨z, _⟩
    · exact q a cls ec (σ'.set i (some (.ref a))) H' (s'.set (.ref a) i) c' _ ⟨fun τ2 μ2 σ2 H2 f2 c2 s2 p => k.nx _ μ2 _ H2 (f.trans f2) c2 (slots_unset i s2) p, fun d μ2 v H2 f2 c2 r p => k.rt d μ2 v H2 (f.trans f2) c2 r p,
        fun τ2 μ2 σ2 H2 f2 c2 s2 p => k.bk _ μ2 _ H2 (f.trans f2) c2 (slots_unset i s2) p, fun τ2 μ2 σ2 H2 f2 c2 s2 p => k.ct _ μ2 _ H2 (f.trans f2) c2 (slots_unset i s2) p,
        fun x2 dx2 τ2 μ2 cls2 σ2 H2 e2 f2 c2 s2 p => k.wx x2 dx2 (τ2.set i none) μ2 cls2 (σ2.set i none) H2 e2 (f.trans f2) c2 (slots_unset i s2) p⟩
    · rw [hx] at z; cases z
  · rcases q with ⟨z, _⟩ | ⟨_, q⟩
    · rw [hx] at z; cases z
    · exact k.wx x dx τ' μ' cls σ' H' (q.1.trans ec) f c' s' q.2
/-- raise X('..') from n -/
theorem s_raiseE0 {C a : Addr} {cls1 : Value} {x : Str} {i : Nat} (rK : L2H.RaisesK K cls1) (hi : τ[i]? = some (some (.ref a))) (hc : N.cn x = some (.ref C)) (h : N.xs x none τ μ) :
    AS K (fun _ σ H => L2H.RaisesK K cls1 ∧ σ[i]? = some (some (.ref a)) ∧ (fun (_ : L2.St) (H : Hp) (Q : XK) => Q (.ref C) none H) σ H fun cls d H' => N.W cls d σ H') τ μ N := fun σ H s c E k => by
  refine ⟨rK, ?_, k.wx x none τ μ (.ref C) σ H hc Fr.refl c s h⟩
  obtain ⟨v, e, r⟩ := s.2 i (.ref a) hi
  cases r
  exact e
end
end Z
namespace Z
open PySem PySem.Spec PyProof.Rows L2
theorem sub_zde {K : PySem.W.Frag} : PySem.W.subIn K (.type "ZeroDivisionError") (.type "BaseException") = some true := by
  show (fastBuiltinMro "ZeroDivisionError").map (·.contains (.type "BaseException")) = some true
  decide +kernel
theorem sub_zde1 {K : PySem.W.Frag} : PySem.W.subIn K (.type "ZeroDivisionError") (.type "ZeroDivisionError") = some true := by
  show (fastBuiltinMro "ZeroDivisionError").map (·.contains (.type "ZeroDivisionError")) = some true
  decide +kernel
theorem raisesK_zde {K : PySem.W.Frag} : L2H.RaisesK K (.type "ZeroDivisionError") := fun M h x => PySem.W.looks_subIn x sub_zde
theorem exm_zde {K : PySem.W.Frag} : PySem.W.exmOne K (.type "ZeroDivisionError") (.type "ZeroDivisionError") = some true := by
  unfold PySem.W.exmOne
  rw [sub_zde, if_pos (by rfl)]
  show (if PySem.W.kitMeta "ZeroDivisionError" = true then PySem.W.subIn K (.type "ZeroDivisionError") (.type "ZeroDivisionError") else none) = some true
  rw [if_pos (by decide +kernel), sub_zde1]
end Z
namespace Z
open PySem PySem.Spec PyProof.Rows L2
end Z
namespace Z
open PySem
end Z
namespace LK
open PySem PySem.Spec PyProof.Rows L2 LamX NdefX PySem.W
end LK
namespace LK
open PySem PySem.Spec PyProof.Rows L2 LamX NdefX PySem.W
section
variable {X : Cx}
/-- the frame's own objects lie below -/
theorem low {pins : List (Addr × Obj)} {σ : L2.St} {H : Hp} {s : Shared} (I : Inv X pins σ H s) {b : Addr} (h : s.heap.objs.size ≤ b) :
    (b ∈ X.ex ∨ X.s_0.heap.objs.size ≤ b) ∧ b ≠ X.env.locals ∧ (∀ x c, X.env.cells.lookup x = some c → c ≠ b) ∧ ∀ p ∈ X.pn ++ pins, p.1 ≠ b := by
  refine ⟨.inr (Nat.le_trans I.sz h), Nat.ne_of_gt (Nat.lt_of_lt_of_le I.lt h), fun x c e => ?_, fun p hp => ?_⟩
  · obtain ⟨v, o, ho, _⟩ := I.cell x c e
    exact Nat.ne_of_lt (Nat.lt_of_lt_of_le (Heap.lt_size ho) h)
  · exact Nat.ne_of_lt (Nat.lt_of_lt_of_le (Heap.lt_size (I.pin p hp).1) h)
end
end LK
namespace LK
open PySem PySem.Spec PyProof.Rows L2 LamX NdefX PySem.W
structure FunT (K : PySem.W.Frag) (x qual : Str) (st : Stmt) (c f : Addr) (fd : FuncData) : Prop where
  ex : ∃ (oc : Value) (od : Option Addr) (kV doc pm : Value) (an : Option Addr) (ct : Value) (osl : Array (Option Value)),
    fd = PySem.W.fnOf x qual (defArgs st) (defBody st) (defScope st) .none kV doc pm an (.ref c) ct ∧ K.lookup f = some ⟨oc, od, .func fd, osl⟩ ∧ PySem.W.codeIn K (.ref c) qual = true
  kp : PySem.W.keepIn K (.ref f) = true
section
variable {P : Program} {w : World} {K : PySem.W.Frag} {mg : Str → Option Value} {base : Heap} {x qual : Str} {st : Stmt} {c f : Addr} {fd : FuncData}
theorem FunT.ok {CX : CXT} {N ps : List Str} {k : Nat} {sp : Sp} (F : FunT K x qual st c f fd) (S : FnScope N ps (defScope st)) (len : ∀ vs H Q E, sp vs H Q E → vs.length = ps.length)
    (hbody : ∀ (A : Around) (outer : List Env) (s : Shared) (H : Hp) (vs : List V) (Q : VK) (E : XK), Room k (A.deeper (envOfC qual (defScope st) s.heap.objs.size f (.ref c))) → sp vs H Q E →
      ∃ t, PSs (cxOf CX P w K mg base N qual (defScope st) f (.ref c) A outer s H E) (defBody st) t ∧ t { nx := fun _ H' => Q .non H', rt := Q } (start N vs) H) : FnOk P w K mg base CX (k + 1) f fd ps sp := by
  obtain ⟨oc, od, kV, doc, pm, an, ct, osl, rfl, lk, hcd⟩ := F.ex
  exact fn_of lk hcd S len hbody
theorem FunT.fn (F : FunT K x qual st c f fd) : Fun K x qual st f fd := by
  obtain ⟨oc, od, kV, doc, pm, an, ct, osl, e, lk, hcd⟩ := F.ex
  exact ⟨⟨oc, od, kV, doc, pm, an, .ref c, ct, osl, e, lk, hcd⟩, F.kp⟩
end
end LK
namespace Z
open PySem L2 LK PySem.W
end Z
namespace EK
open PySem PySem.Spec PyProof.Rows L2
/-- the tuple at a, each item in a new pair, counted from k -/
def IteT (K : PySem.W.Frag) (a : Addr) (k : Int) : It :=
  ⟨fun i H => ∃ (xs : List V) (x : V), SqT K H a xs ∧ xs[i]? = some x, fun i H v H' => ∃ T x, v = .ref T ∧ H T = none ∧ H' = upd H T (.tup [.int (k + (i : Nat)), x]) ∧ ∀ xs, SqT K H a xs → xs[i]? = some x, fun i H => ∃ xs : List V, SqT K H a xs ∧ xs.length ≤ i⟩
/-- the tuple, the record and the iterator are three objects -/
theorem three {h : Heap} {a e it : Addr} {xs : Array Value} {k : Int} {old : Value} {i : Nat} (tup : h.IsTuple a xs) (rec : IsEnum h e it k old) (src : h.IsTupleIter it a i) : e ≠ a ∧ a ≠ it := by
  obtain ⟨o, at_, cls, _⟩ := tup
  refine ⟨?_, ?_⟩
  · rintro rfl
    obtain rfl := Option.some.inj (Eq.trans at_.symm rec)
    injection cls with c
    exact absurd c (by decide)
  · rintro rfl
    obtain ⟨o', at', cls', _⟩ := src
    obtain rfl := Option.some.inj (at_.symm.trans at')
    injection cls.symm.trans cls' with c
    exact absurd c (by decide)
theorem turn_enumT {P : Program} {w : World} {K : PySem.W.Frag} {elts : List Expr} {kk : Nat} {tpos : Pos} (a e it : Addr) (k : Int) :
    Turn P w K (.Tuple elts kk tpos) (IteT K a k) [e, it] e (fun i h => (∃ old, IsEnum h e it (k + (i : Nat)) old) ∧ h.IsTupleIter it a i ∧ e ≠ it) where
  mem := List.mem_cons_self
  obj := by
    rintro i h ⟨⟨old, rec⟩, ⟨o, at_, _, data⟩, _⟩ b hb
    rcases List.mem_cons.mp hb with rfl | hb
    · exact ⟨_, rec, nofun⟩
    · obtain rfl := List.mem_singleton.mp hb
      exact ⟨o, at_, fun v c => nomatch data.symm.trans c⟩
  keep := by
    rintro i h h' ⟨⟨old, rec⟩, src, ne⟩ kept
    exact ⟨⟨old, kept e List.mem_cons_self _ rec⟩, src.at fun o q => kept it (List.mem_cons_of_mem _ List.mem_cons_self) o q, ne⟩
  item := by
    rintro X rfl rfl rfl calm i pins s σ H E I hid ⟨⟨old, rec⟩, src, ne⟩ ⟨xs, x, isT, hx⟩
    obtain ⟨ys, rel, tup, _⟩ := I.tuple isT
    obtain ⟨u, hu, ru⟩ := rel.get hx
    obtain ⟨ea, ai⟩ := three tup rec src
    have few : i < ys.length := (List.getElem?_eq_some_iff.mp hu).1
    have D := Draws.tuple (prog := X.prog) (w := X.w) (A := X.A.in1) (I.ok.hd calm) it a ai ys.toArray
    apply wpAny_pyNext_enum_itemC D rec ⟨src, tup⟩ (by simpa using few) ne (by simp [ne, ea])
    intro y g tk drawn out onward two _ kept
    obtain rfl : y = u := Option.some.inj (Eq.trans (by simpa using Eq.symm drawn) hu)
    refine ⟨_, rfl, wpAny_letOwnedTupleGo_enum (s := { s with heap := g, toks := tk + 1 }) out fun g2 rec2 but => ?_⟩
    have there : ∀ b ∈ [e, it], b < s.heap.objs.size := by
      intro b hb
      rcases List.mem_cons.mp hb with rfl | hb
      · exact Heap.lt_size rec
      · obtain rfl := List.mem_singleton.mp hb
        obtain ⟨_, at_, _⟩ := src
        exact Heap.lt_size at_
    have J := I.turnedNew (ch := [e, it]) (h' := g2) (t' := tk + 1) (ob := .tup [.int (k + (i : Nat)), x])
      (fun b o out z => by
        have b1 : b ≠ e := fun y => out (y ▸ List.mem_cons_self)
        have b2 : b ≠ it := fun y => out (y ▸ List.mem_cons_of_mem _ List.mem_cons_self)
        exact (but.2 b b1).trans (kept b o b1 b2 z)) hid (Nat.le_refl s.heap.objs.size)
      ⟨(by decide : 2 ≤ sizeLine), [.int (k + (i : Nat)) tk, y], .cons ⟨tk, rfl⟩ (.cons ru .nil), _, (but.2 _ (Nat.ne_of_gt (there e List.mem_cons_self))).trans two, rfl, _, rfl⟩
    refine ⟨.ref s.heap.objs.size, _, J, rfl, ⟨_, x, rfl, I.hok.fresh (Nat.le_refl _), rfl, ?_⟩, ⟨⟨y, ?_⟩, onward.1.at fun o q => (but.2 it ne.symm).trans q, ne⟩, ?_⟩
    · intro zs isZ
      rw [I.tuple_inj isZ isT]
      exact hx
    · rw [show k + ((i + 1 : Nat) : Int) = k + (i : Int) + 1 by omega]
      exact rec2
    · intro b hb
      exact (upd_ne (Nat.ne_of_lt (there b hb))).trans (hid b hb).1
  done := by
    rintro X rfl rfl rfl calm i pins s σ H E I hid ⟨⟨old, rec⟩, src, ne⟩ ⟨xs, isT, over⟩
    obtain ⟨ys, rel, tup, _⟩ := I.tuple isT
    have same := rel.length
    obtain ⟨_, ai⟩ := three tup rec src
    obtain ⟨h0, h1, _, h3, h4, h5⟩ := hid it (List.mem_cons_of_mem _ List.mem_cons_self)
    have isE : s.TypeIs (.ref e) "enumerate" := ⟨_, rec, rfl⟩
    have slot := F.slot_enumerate_next
    unfold pyNext
    apply wpAny_bind
    apply wpAny_attempt
    apply wpAny_callSpecial?_slot (name := Str.ofString "__next__") isE slot
    refine wpAny_call_entry slot isE F.entry_enumerate_next ?_ (F.args_enumerate_next_1 _)
    show wpAny _ _ (field (.ref e) 2 >>= _) _ _ _
    refine wpAny_bind (wpAny_field rec rfl (x := .ref it) rfl (wpAny_bind ?_))
    apply RZ.nextOf_tuple_end (A := X.A.in1) (I.ok.hd calm) src tup (by rw [List.getElem?_toArray]; exact List.getElem?_eq_none (by omega))
    rintro g stop kept ⟨o, at_, cls⟩
    refine wpAny_bind (wpAny_isInstance (T := "StopIteration") (b := true) ⟨o, at_, cls⟩ isSubtype_stop ?_)
    exact wpAny_pure ⟨rfl, I.turned (t' := s.toks) (fun b u nb z => kept b u nb z) h0 h1 h3 h4 h5⟩
  self := fun A i s Q E st h => let ⟨⟨_, he⟩, _⟩ := st; wpAny_pyIter_enum he h
end EK
namespace Z
open PySem L2 EK
/-- pairs counted from k -/
def enumD (k : Int) : List D → List D
  | [] => []
  | x :: xs => .tup [.int k, x] :: enumD (k + 1) xs
theorem enumD_len : ∀ (k : Int) (xs : List D), (enumD k xs).length = xs.length
  | _, [] => rfl
  | k, x :: xs => by rw [enumD, List.length_cons, List.length_cons, enumD_len]
theorem enumD_get : ∀ {k : Int} {xs : List D} {i : Nat} {x : D}, xs[i]? = some x → (enumD k xs)[i]? = some (.tup [.int (k + (i : Nat)), x])
  | _, [], _, _, h => by simp at h
  | k, y :: xs, 0, x, h => by
    simp at h
    subst h
    simp [enumD]
  | k, y :: xs, i + 1, x, h => by
    have h2 := enumD_get (k := k + 1) (xs := xs) (i := i) (x := x) (by simpa using h)
    rw [enumD, List.getElem?_cons_succ, h2]
    have e : k + 1 + (i : Int) = k + ((i + 1 : Nat) : Int) := by omega
    rw [e]
section
variable {K : PySem.W.Frag} {τ : T} {μ μ1 μ2 : M} {H H1 H2 H' : Hp} {te tk : TE} {Ψ : List D → M → (M → M) → Prop}
theorem walk_E {a : Addr} {k : Int} {vs : List V} {ds : List D} (hr : Rels K H1 vs ds) : WalkD K (IteT K a k) (enumD k ds) (fun _ => False) (fun H' => TupAt K H' a vs ∧ Rels K H' vs ds) where
  keep := fun H H' μ μ' c _ g f => ⟨g.1.mono (f.tx c), Rels.mono (f.tx c) _ _ g.2⟩
  oo := fun _ _ _ h => h.elim
  go := fun i H' hi g => by
    rw [enumD_len, ← hr.length] at hi
    exact ⟨vs, vs[i], g.1.sq, List.getElem?_eq_getElem hi⟩
  stop := fun i H' hi g => by
    rw [enumD_len, ← hr.length] at hi
    exact ⟨vs, g.1.sq, hi⟩
  yld := fun i H' v H2 hi g y => by
    obtain ⟨T0, x, e, hT, e2, q1⟩ := y
    obtain ⟨d1, k1, r1⟩ := g.2.getV (q1 vs g.1.sq)
    refine ⟨_, enumD_get k1, ?_, .inr ⟨T0, _, hT, e2⟩⟩
    subst e e2
    exact .tup (.inl upd_same) (.cons (.int _) (.cons (Rel.mono (tx_new hT) _ _ r1) .nil))
end
end Z
namespace OD
open PySem PySem.Spec PyProof.Rows L2 PySem.W
end OD
namespace Z
open PySem L2 OD PySem.W
abbrev t3 (a b c : Int) : D := .tup [.int a, .int b, .int c]
theorem dstep (x y : Int) (R : Bool) : (decide (x < y) || (!decide (y < x) && R)) = (decide (x < y) || (decide (x = y) && R)) := by
  rcases Int.lt_trichotomy x y with h | h | h
  · rw [decide_eq_true h]; rfl
  · subst h; simp
  · have h1 : ¬ x < y := by omega
    have h2 : ¬ x = y := by omega
    rw [decide_eq_true h, decide_eq_false h1, decide_eq_false h2]; rfl
theorem dsame (x : Int) (R : Bool) : (decide (x < x) || (!decide (x < x) && R)) = R := by simp
end Z
namespace Z
open PySem PySem.Spec PyProof.Rows L2 LK LamX
end Z
namespace Z
open PySem L2
section
variable {K : PySem.W.Frag} {τ : T} {μ μ1 μ2 : M} {Φ : D → M → Prop} {te : TE} {tt tt1 : TT} {wi wi1 : TI} {g g1 : TG}
theorem a_methI {P : PT3} {E : XK} {C : Addr} {m : Str} {ta : TA} (h : AE K te τ μ fun o μ1 => ∃ a dx fs, o = .ref a ∧ μ1 a = some (.ins C dx fs) ∧ fs.lookup m = none ∧ AA K ta τ μ1 fun ds μ2 => P (o :: ds) μ2 Φ) :
    AE K (tMeth C m (spI K P) [] E te ta) τ μ Φ := fun σ H s c Q k =>
  h σ H s c _ fun o μ1 v H1 f1 c1 r1 ⟨a, dx, fs, e, ha, hm, p1⟩ => by
    subst e
    cases r1
    obtain ⟨vs, hv, hr⟩ := c1 a _ ha
    refine ⟨a, dx, vs, rfl, hv, look_none hr hm, p1 σ H1 (s.mono (f1.tx c)) c1 _ fun ds μ2 us H2 f2 c2 r2 p => ?_⟩
    rw [List.append_nil]
    exact ⟨.ref a :: ds, μ2, Φ, .cons (.ref a) r2, c2, p, fun d μ' v H' f c' r q => k d μ' v H' ((f1.trans f2).trans f) c' r q⟩
theorem a_lcp {js : List Nat} {dec : D → List D → Prop} (hg : TgOk K g js dec) (f : D → D) (p : D → Bool)
    (h : AI K wi τ μ fun xs μw back => xs.length < sizeLine ∧ (∀ x ∈ xs, ∃ ds, dec x ds ∧ ds.length = js.length ∧ AT K tt (sets τ js ds) μw (fun b μ2 => b = p x ∧ μ2 = μw) ∧ (p x = true → AE K te (sets τ js ds) μw fun y μ2 => y = f x ∧ μ2 = μw)) ∧
      ∀ q, back μw q = none → Φ (.ref q) ((back μw).set q (.lst ((xs.filter p).map f)))) : AE K (tLc wi g tt te js) τ μ Φ :=
  a_lc hg (fun σ H s c R k => h σ H s c R fun J xs out G H1 μw back tx c1 W g1 o1 B ⟨hz, ht, he⟩ => k J xs out G H1 μw back tx c1 W g1 o1 B (by
    refine ⟨fun i acc μ' => μ' = μw ∧ acc = ((xs.take i).filter p).map f, ⟨rfl, rfl⟩, ?_, ?_⟩
    · rintro i x acc μ' hx ⟨rfl, rfl⟩
      obtain ⟨ds, hd, hl, h1, h2⟩ := ht x (List.mem_of_getElem? hx)
      refine ⟨ds, hd, hl, h1.imp fun b μ2 ⟨e1, e2⟩ => ?_⟩
      subst e2
      dsimp only
      rw [filt_step (f := f) hx]
      cases b with
      | true =>
        rw [if_pos rfl]
        refine (h2 e1.symm).imp fun y μ' ⟨e3, e4⟩ => ?_
        subst e4
        refine ⟨?_, rfl, ?_⟩
        · rw [List.length_map]
          have l1 := List.length_filter_le p (xs.take i)
          have l2 : (xs.take i).length ≤ xs.length := by rw [List.length_take]; omega
          omega
        · rw [if_pos e1.symm, List.map_append, e3]
          rfl
      | false =>
        rw [if_neg Bool.false_ne_true]
        refine ⟨rfl, ?_⟩
        rw [if_neg (by rw [← e1]; exact Bool.false_ne_true), List.append_nil]
    · rintro acc μ' ⟨rfl, rfl⟩ a ha
      rw [List.take_length]
      exact he a ha))
end
end Z
namespace L2
namespace DCT
open PySem PySem.Spec PyProof.Rows
section
variable {Y : Cx} {tg : Expr} {ifs : List Expr} {J : It} {fp : List Addr} {it : Addr} {tn : Nat → Heap → Prop} {τ : St} {i : Nat} {G : Hp} {z : Shared}
/-- a block between two turns: the source stands at place i, and none of its objects is tracked -/
structure Rest (Y : Cx) (fp : List Addr) (tn : Nat → Heap → Prop) (τ : St) (i : Nat) (G : Hp) (z : Shared) : Prop where
  inv : Inv Y [] τ G z
  src : tn i z.heap
  hid : ∀ b ∈ fp, G b = none
/-- what a turn leaves is at rest again, one place on -/
theorem again {σ : St} {vs : List Nat} {h0 : Heap} (T : Turn Y.prog Y.w Y.K tg J fp it tn) (t : tn i h0) (w : wipe σ vs = τ) (I : Inv Y ([] ++ pinsAt fp h0) σ G z) : Rest Y fp tn τ i G z := by
  have same : ∀ b ∈ fp, ∀ o, h0.get? b = some o → z.heap.get? b = some o ∧ G b = none := by
    intro b hb o e
    have pin := I.pin (b, o) (by simp [mem_pinsAt hb e])
    exact ⟨pin.1, pin.2.1⟩
  subst w
  refine ⟨Inv.weak (Inv.unpinned I) (wipe_length σ vs) fun j v e => (wipe_some e).1, T.keep i h0 z.heap t fun b hb o e => (same b hb o e).1, ?_⟩
  intro b hb
  obtain ⟨o, e, _⟩ := T.obj i h0 t b hb
  exact (same b hb o e).2
end
end DCT
end L2
namespace Z
open PySem L2 PySem.W L2.DCT
section
variable {K : PySem.W.Frag} {τ : T} {μ μ1 μ2 μ0 μ' : M} {H H0 H1 H2 H' : Hp} {σ : L2.St} {Φ : D → M → Prop} {tk tv : TE} {tt : TT} {wi : TI} {j : Nat}
theorem kv_length {κ : Type} : ∀ {vs : List (κ × V)} {kvs : List (κ × D)}, RelKV K H vs kvs → vs.length = kvs.length
  | _, _, .nil => rfl
  | _, _, .cons _ b => by rw [List.length_cons, List.length_cons, kv_length b]
end
end Z
namespace Z
open PySem L2 PySem.W
section
variable {κ : Type} [DecidableEq κ]
theorem val_any (r : List (κ × D)) (j : κ) : (valD r j).isSome = r.any fun kv => decide (kv.1 = j) := by
  induction r with
  | nil => rfl
  | cons p r ih =>
    rw [valD_cons, List.any_cons, ← ih]
    by_cases h : p.1 = j
    · rw [if_pos h, decide_eq_true h]; rfl
    · rw [if_neg h, decide_eq_false h, Bool.false_or]
end
end Z
namespace Z
open PySem PySem.Spec PyProof.Rows L2
end Z
namespace L2M
open PySem PySem.Spec PyProof.Rows L2
def endI (D : Ends) : Option Nat → Ends
  | none => D
  | some i => { nx := fun σ' H' => D.nx (σ'.set i none) H', rt := D.rt, bk := fun σ' H' => D.bk (σ'.set i none) H', ct := fun σ' H' => D.ct (σ'.set i none) H' }
abbrev HL := List (Value × Option Nat × (Addr → Value → Option Addr → TS))
end L2M
namespace Z
open PySem L2 L2M
structure HZ where
  c : Value
  oi : Option Nat
  tu : Addr → Value → Option Addr → TS
  hit : Str → Bool
def HZ.t (h : HZ) : Value × Option Nat × (Addr → Value → Option Addr → TS) := (h.c, h.oi, h.tu)
end Z
namespace PySem.W
open PySem PySem.Spec PySem.Calls PyProof.Rows
end PySem.W
namespace Z
open PySem PySem.Spec PyProof.Rows L2
end Z
namespace Z
open PySem PySem.Spec PyProof.Rows L2
end Z
namespace Z
open PySem L2 L2M
end Z
namespace Z
open PySem L2
theorem a_cref {K : PySem.W.Frag} {τ : T} {μ : M} {Φ : D → M → Prop} {a : Addr} (h : Φ (.ref a) μ) : AE K (tC (.ref a)) τ μ Φ := fun σ H s c Q k => k (.ref a) μ _ H Fr.refl c (.ref a) h
theorem ro_neS {K : PySem.W.Frag} {μ : M} {Φ : D → M → Prop} {i j : Str} (q : Φ (.bl (!decide (i = j))) μ) : RO K rNe (.str i) (.str j) μ Φ := fun H x y c r1 r2 Q k => by
  cases r1; cases r2
  refine ⟨rfl, ?_⟩
  have e : decide (V.str i = V.str j) = decide (i = j) := by simp
  rw [e]
  exact k _ μ _ H Fr.refl c (.bl _) q
end Z
namespace RVT
open PySem PySem.Spec PyProof.Rows L2 HT
section
variable {prog : Program} {w : World} {A : Around} {E : Value → Shared → Prop} {s : Shared}
theorem adjust_rev (n : Nat) : Builtin.Slice.sliceAdjust none none (-1) (n : Int) = ((n : Int) - 1, -1) := by
  unfold Builtin.Slice.sliceAdjust
  simp
theorem places_rev (n : Nat) : Builtin.Slice.slicePlaces ((n : Int) - 1) (-1) (-1) = n := by
  unfold Builtin.Slice.slicePlaces
  simp
  try omega
theorem sliceApplied_rev {sl : Addr} {vl vu vs : Value} {n : Nat} {Q : Int × Int × Nat → Shared → Prop} (hs : s.heap.IsSliceOf sl vl vu vs) (pl : IsPart vl none) (pu : IsPart vu none) (ps : IsPart vs (some (-1)))
    (h : Q ((n : Int) - 1, -1, n) s) : wpAny (model prog w) A (Builtin.Slice.sliceApplied (.ref sl) (pure (n : Int))) Q E s := by
  obtain ⟨os, hos, hcs, hds⟩ := id hs
  unfold Builtin.Slice.sliceApplied Builtin.Slice.sliceFields
  refine wpAny_bind (wpAny_bind (wpAny_field hos hds (x := vl) rfl (wpAny_bind (wpAny_field hos hds (x := vu) rfl (wpAny_bind (wpAny_field hos hds (x := vs) rfl (wpAny_pure ?_)))))))
  refine wpAny_bind (slicePart_ ps ?_)
  show wpAny _ _ (if ((-1 : Int) == 0) = true then _ else _) _ _ s
  rw [if_neg (by decide)]
  refine wpAny_bind (slicePart_ pl (wpAny_bind (slicePart_ pu (wpAny_bind (wpAny_pure ?_)))))
  show wpAny _ _ (match Builtin.Slice.sliceAdjust none none (-1) (n : Int) with | (lo, hi) => pure (lo, (-1 : Int), Builtin.Slice.slicePlaces lo hi (-1))) _ _ s
  rw [adjust_rev n]
  show wpAny _ _ (pure ((n : Int) - 1, (-1 : Int), Builtin.Slice.slicePlaces ((n : Int) - 1) (-1) (-1))) _ _ s
  rw [places_rev]
  exact wpAny_pure h
theorem filterMap_on {α β : Type} {f g : α → Option β} : ∀ {l : List α}, (∀ x ∈ l, f x = g x) → l.filterMap f = l.filterMap g
  | [], _ => rfl
  | a :: l, h => by rw [List.filterMap_cons, List.filterMap_cons, h a List.mem_cons_self, filterMap_on fun x hx => h x (List.mem_cons_of_mem _ hx)]
theorem pick_rev (xs : Array Value) : ((List.range xs.size).filterMap fun (m : Nat) => xs[((xs.size : Int) - 1 + (m : Int) * -1).toNat]?).toArray = xs.toList.reverse.toArray := by
  have key : ∀ l : List Value, (List.range l.length).filterMap (fun (m : Nat) => l[((l.length : Int) - 1 + (m : Int) * -1).toNat]?) = l.reverse := by
    intro l
    have e1 : (List.range l.length).filterMap (fun (m : Nat) => l[((l.length : Int) - 1 + (m : Int) * -1).toNat]?) = (List.range l.length).filterMap (fun (m : Nat) => l.reverse[m]?) := by
      refine filterMap_on fun m hm => ?_
      have hm := List.mem_range.mp hm
      rw [List.getElem?_reverse hm]
      congr 1
      omega
    rw [e1]
    have e2 : ∀ l : List Value, (List.range l.length).filterMap (fun (m : Nat) => l[m]?) = l := by
      intro l
      induction l with
      | nil => rfl
      | cons a l ih =>
        rw [List.length_cons, List.range_succ_eq_map, List.filterMap_cons, List.filterMap_map]
        simp only [List.getElem?_cons_zero]
        congr 1
    have := e2 l.reverse
    rw [List.length_reverse] at this
    exact this
  have := key xs.toList
  rw [Array.length_toList] at this
  simp only [Array.getElem?_toList] at this
  rw [this]
/-- the slot's own text, at a slice that runs backwards -/
theorem body_rev {t sl : Addr} {xs : Array Value} {vl vu vs : Value} {Q : Value → Shared → Prop} (ht : IsTup s.heap t xs) (hs : s.heap.IsSliceOf sl vl vu vs) (pl : IsPart vl none) (pu : IsPart vu none) (ps : IsPart vs (some (-1))) (few : xs.size ≤ sizeLine)
    (q : Q (.ref s.heap.objs.size) { s with heap := s.heap.push { cls := .type "tuple", data := .seq xs.toList.reverse.toArray } }) :
    wpAny (model prog w) A (Builtin.«tuple.__getitem__» ⟨[.ref t, .ref sl], []⟩) (fun fin z => ∃ v, fin = .done (.ret v) ∧ Q v z) E s := by
  have isSlice : s.TypeIs (.ref sl) "slice" := by
    obtain ⟨o, at_, cls, _⟩ := hs
    exact ⟨o, at_, cls⟩
  show wpAny _ _ (Builtin.Tuple.tupleItemsOf (.ref t) >>= _) _ _ _
  apply wpAny_bind
  apply tupleItemsOf_ ht
  apply wpAny_bind
  apply wpAny_typeOf isSlice
  simp only [beq_self_eq_true, if_true]
  apply wpAny_bind
  apply sliceApplied_rev hs pl pu ps
  simp only [show ((-1 : Int) == 1) = false from rfl, Bool.and_false, Bool.false_and, Bool.false_eq_true, if_false, pick_rev]
  apply wpAny_bind
  have fits : sizeOk (.seq xs.toList.reverse.toArray) := by
    show xs.toList.reverse.toArray.size ≤ sizeLine
    simpa using few
  refine wpAny_newObj_type ?_ fits
  exact wpAny_pure ⟨_, rfl, q⟩
theorem item_rev {t sl : Addr} {xs : Array Value} {vl vu vs : Value} {Q : Value → Shared → Prop} (ht : IsTup s.heap t xs) (hs : s.heap.IsSliceOf sl vl vu vs) (pl : IsPart vl none) (pu : IsPart vu none) (ps : IsPart vs (some (-1))) (few : xs.size ≤ sizeLine)
    (q : Q (.ref s.heap.objs.size) { s with heap := s.heap.push { cls := .type "tuple", data := .seq xs.toList.reverse.toArray } }) : wpAny (model prog w) A (getItem (.ref t) (.ref sl)) Q E s := by
  have slot := PyProof.Rows.slot_tuple_getitem
  unfold getItem
  apply wpAny_holding
  apply wpAny_bind
  apply wpAny_sequenceKey ht.typeIs (by decide)
  apply wpAny_bind
  apply wpAny_callSpecial?_slot (name := Str.ofString "__getitem__") ht.typeIs slot
  apply wpAny_call_entry slot ht.typeIs entry_tuple_getitem _ (args_tuple_getitem _ _)
  exact body_rev ht hs pl pu ps few (wpAny_pure q)
end
def tRevT (K : PySem.W.Frag) (te : TE) : TE := fun σ H Q => te σ H fun x H1 => ∃ a xs, x = .ref a ∧ SqT K H1 a xs ∧ ∀ p, H1 p = none → Q (.ref p) (upd H1 p (.tup xs.reverse))
/-- the three parts of [::-1]; the slice made of them -/
theorem slice_rev {X : Cx} {pins : List (Addr × Obj)} {σ : L2.St} {H : Hp} {s : Shared} {Q : Value → Shared → Prop} {k : Nat} {p1 p2 p3 : Pos} (I : L2.Inv X pins σ H s)
    (q : ∀ vl vu vs sl z, L2.Inv X pins σ H z → z.heap.IsSliceOf sl vl vu vs → IsPart vl none → IsPart vu none → IsPart vs (some (-1)) → Q (.ref sl) z) :
    wpAny (model X.prog X.w) X.A (eval (.Slice none none (some (.UnaryOp .USub (.Constant (.int 1) k p1) p2)) p3) X.env) Q X.xe s := by
  have none_ : ∀ {s R}, L2.Inv X pins σ H s → (∀ v z, L2.Inv X pins σ H z → IsPart v none → R v z) → wpAny (model X.prog X.w) X.A (evalPart none X.env) R X.xe s := fun I r =>
    thn (po_none.run pins _ σ H (fun o G => o = none ∧ G = H) I ⟨rfl, rfl⟩) fun v z ⟨_, _, J, part, eo, eH⟩ => by
      subst eo eH
      exact r v z J part
  have less : PO X (some (.UnaryOp .USub (.Constant (.int 1) k p1) p2)) (tPart (tUn (rU fun i => .int (-i)) (tC (.int 1)))) := po_some (pe_un un_neg pe_int)
  apply wpAny_Slice
  apply none_ I
  intro vl s1 I1 pl
  apply none_ I1
  intro vu s2 I2 pu
  apply thn (less.run pins s2 σ H (fun o G => o = some (-1) ∧ G = H) I2 ⟨1, rfl, -1, rfl, rfl, rfl⟩)
  rintro vs s3 ⟨_, _, I3, ps, rfl, rfl⟩
  exact q vl vu vs _ _ (I3.kept (t' := s3.toks) fun b o e => Heap.get?_push_of_some { cls := .type "slice", data := .fields #[vl, vu, vs] } e) (Heap.IsSliceOf.new _ vl vu vs) pl pu ps
theorem pe_revT {X : Cx} {K : PySem.W.Frag} (hK : X.K = K) {e : Expr} {te : TE} {k : Nat} {p1 p2 p3 pos : Pos} (he : PE X e te) : PE X (.Subscript e (.Slice none none (some (.UnaryOp .USub (.Constant (.int 1) k p1) p2)) p3) pos) (tRevT K te) := by
  subst hK
  constructor
  intro pins s σ H Q I h
  apply Subscript_
  apply thn (he.run pins s σ H _ I h)
  rintro v s1 ⟨_, H1, I1, r1, a, xs, rfl, isT, q⟩
  obtain rfl : v = .ref a := r1
  apply slice_rev I1
  intro vl vu vs sl z I2 isS pl pu ps
  obtain ⟨ys, rel, at_, few⟩ := I2.tuple isT
  refine tail_any (ops := [.ref a, .ref sl]) at_.typeIs PyProof.Rows.slot_tuple_getitem.lookup ?_ (by with_unfolding_all rfl)
  apply item_rev at_ isS pl pu ps (by rw [List.size_toArray, ← rel.length]; exact few)
  have J := I2.laid (t' := z.toks) (o := .tup xs.reverse) (fun b o e => Heap.get?_push_of_some { cls := .type "tuple", data := .seq ys.toArray.toList.reverse.toArray } e) (Nat.le_refl z.heap.objs.size)
    ⟨by rw [List.length_reverse]; exact few, ys.reverse, rel.reverse, _, Heap.get?_push_size _ rfl, rfl, 0, rfl⟩
  exact ⟨.ref z.heap.objs.size, _, J, rfl, q _ (I2.hok.fresh (Nat.le_refl _))⟩
end RVT
namespace Z
open PySem L2
theorem a_revT {K : PySem.W.Frag} {τ : T} {μ : M} {te : TE} {Φ : D → M → Prop} (h : AE K te τ μ fun d μ1 => ∃ ds, d = .tup ds ∧ Φ (.tup ds.reverse) μ1) : AE K (RVT.tRevT K te) τ μ Φ := fun σ H s c Q k =>
  h σ H s c _ fun d μ1 v H1 f1 c1 r1 ⟨ds, e, q⟩ => by
    subst e
    cases r1 with
    | @tup a xs _ ht hr => exact ⟨a, xs, rfl, ht.sq, fun p hp => k _ _ _ _ (f1.trans (fr_new hp)) (con_new hp c1) (.tup (.inl upd_same) (Rels.mono (tx_new hp) _ _ hr.reverse)) q⟩
end Z
namespace SDT
open PySem PySem.Spec PyProof.Rows L2 PySem.W
def tkey (k : List Int) : List L2.Key := k.map Sum.inl
abbrev pyOf (k : List Int) : PyData := .tuple (k.map PyData.int)
def rSortDT : List V → Hp → VK → Prop := fun xs H Q => ∃ (a : Addr) (kvs : List (List L2.Key × V)) (ks : List (List Int)), xs = [.ref a] ∧ H a = some (.dT kvs) ∧ kvs.map (·.1) = ks.map tkey ∧ AllAlike (ks.map pyOf) ∧ Sortable (ks.map pyOf) ∧
  ∀ (p : Addr) (rs : List V), H p = none → EachIs (fun v (k : List Int) => ∃ b, v = .ref b ∧ H b = some (.tup (k.map V.int))) rs (ks.mergeSort (dataLe false pyOf)) → Q (.ref p) (upd H p (.lst rs))
theorem each_at {α β : Type} {R : α → β → Prop} : ∀ {vs : List α} {bs : List β}, vs.length = bs.length → (∀ (j : Nat) v b, vs[j]? = some v → bs[j]? = some b → R v b) → EachIs R vs bs
  | [], [], _, _ => .nil
  | v :: vs, b :: bs, hl, h => .cons (h 0 v b rfl rfl) (each_at (by simpa using hl) fun j v' b' h1 h2 => h (j + 1) v' b' (by simpa using h1) (by simpa using h2))
theorem each_vals {H : Hp} {s : Heap} : ∀ {us : List Value} {bs : List (List Int)}, EachIs (fun u (k : List Int) => ∃ b, u = Value.ref b ∧ H b = some (.tup (k.map V.int))) us bs → ∃ rs : List V, Vals rs us ∧ EachIs (fun v (k : List Int) => ∃ b, v = V.ref b ∧ H b = some (.tup (k.map V.int))) rs bs
  | [], [], .nil => ⟨[], .nil, .nil⟩
  | _ :: _, _ :: _, .cons ⟨b, e, h⟩ r => by
    obtain ⟨rs, h1, h2⟩ := each_vals (s := s) r
    subst e
    exact ⟨.ref b :: rs, .cons rfl h1, .cons ⟨b, rfl, h⟩ h2⟩
theorem each_tab {α β : Type} {R S : α → β → Prop} : ∀ {us : List α} {bs : List β}, EachIs R us bs → (∀ u b, R u b → S u b) → EachIs S us bs
  | [], [], .nil, _ => .nil
  | _ :: _, _ :: _, .cons a b, h => .cons (h _ _ a) (each_tab b h)
theorem reads_ints {h : Heap} : ∀ {vs : List Value} {k : List Int}, Vals (k.map V.int) vs → ReadsAll h vs (k.map .int) []
  | [], [], .nil => .nil
  | v :: vs, i :: k, .cons a b => by
    obtain ⟨t, rfl⟩ := (show ∃ t, v = Value.int i t from a)
    exact .cons (.int i t) (reads_ints b)
theorem key_val {k : List Int} : (tkey k).map kV = k.map V.int := by
  unfold tkey
  rw [List.map_map]
  rfl
theorem cr_sortDT {X : Cx} (hc : X.calm = true) (hu : X.A.units + 64 < cLine) : CallR X (.builtin "sorted") rSortDT := by
  intro pins s σ H xs us Q I r q
  obtain ⟨a, kvs, ks, ex, ha, hks, hal, hso, q⟩ := q
  subst ex
  obtain ⟨u, eu, rx⟩ := vals1 r
  subst eu
  cases rx
  obtain ⟨z, lo, xs', rel, o, es, ep, ho, hx, hdat, hes, his, hn⟩ := dt_of I.hok ha
  have l1 : kvs.length = xs'.length := Paired.length rel
  have l3 : kvs.length = ks.length := by
    have := congrArg List.length hks
    rwa [List.length_map, List.length_map] at this
  have l2 : es.size = xs'.length := size_of_entries hes
  have h16 : es.size ≤ sizeLine := by omega
  have hh : X.A.handled = none := I.ok.hd hc
  refine Calls.call_function_entry PyProof.Rows.kind_sorted PyProof.Rows.plain_sorted PyProof.Rows.entry_sorted (PyProof.Rows.args_sorted1 _) ?_
  unfold Builtin.«sorted»
  refine wpAny_bind (m := checkCount "sorted" 1 1 _) (wpAny_pure ?_)
  refine wpAny_bind (PySem.W.kdu_collect (A := X.A.in1) (kdl_raw (prog := X.prog) (w := X.w) (d := a) (o := o) (es := es) (ep := ep) lo hx hdat) hh ho h16 fun h' tk acc hk hacc => ?_)
  have hal2 : acc.toList.length = ks.length := by rw [Array.length_toList, hacc.1]; omega
  have pr : EachIs (fun u (k : List Int) => ∃ b, u = Value.ref b ∧ H b = some (.tup (k.map V.int))) acc.toList ks := each_at hal2 fun j v k e1 e2 => by
    obtain ⟨en, he, hv⟩ := hacc.2 j v (by rw [← Array.getElem?_toList]; exact e1)
    obtain ⟨x, hxj, rfl⟩ := Option.map_eq_some_iff.mp ((entry_at hes j).symm.trans he)
    obtain ⟨y, hy, _, isT, _⟩ := DX.pget rel hxj
    have same : some (tkey k) = some y.1 := by
      rw [← Option.map_some, ← e2, ← List.getElem?_map, ← hks, List.getElem?_map, hy]
      rfl
    refine ⟨x.2.1, hv, ?_⟩
    rw [isT, ← Option.some.inj same, key_val]
  have I1 : L2.Inv X pins σ H { s with heap := h', toks := tk } := I.kept hk
  have hks16 : ks.length ≤ sizeLine := by omega
  refine wpAny_bind (wpAny_newList ?_ (by rw [hal2]; exact hks16))
  have hoL : (h'.push (seqObj "list" acc.toList.toArray 0)).get? h'.objs.size = some (seqObj "list" acc.toList.toArray 0) := Heap.get?_push_size _ rfl
  have I2 : L2.Inv X pins σ H { s with heap := h'.push (seqObj "list" acc.toList.toArray 0), toks := tk } := I1.kept (t' := tk) fun _ _ e => Heap.get?_push_of_some _ e
  show wpAny _ _ _ _ _ { s with heap := h'.push (seqObj "list" acc.toList.toArray 0), toks := tk }
  have er : EachIs (fun v (k : List Int) => ∃ as, Reads (h'.push (seqObj "list" acc.toList.toArray 0)) v (pyOf k) as ∧ ¬h'.objs.size ∈ as) acc.toList ks := each_tab pr fun v k ⟨b, e, hb⟩ => by
    subst e
    obtain ⟨_, its, rv, o2, g1, g2, n2, g3⟩ := (show ObjOk X.prog X.w H (h'.push (seqObj "list" acc.toList.toArray 0)) b (.tup (k.map V.int)) from I2.hok b _ hb)
    refine ⟨[], .tuple g1 g2 g3 ?_, by simp⟩
    rw [List.toList_toArray]
    exact reads_ints rv
  have hcost : ∀ k ∈ ks, X.A.in1.units + 1 + (pyOf k).depth < cLine := fun k hk => by
    have hd : (pyOf k).depth ≤ 1 := by
      have h0 : ∀ l : List Int, PyData.depthAll (l.map .int) = 0 := depth_ints
      simp only [pyOf, PyData.depth, h0]
      decide
    have : X.A.in1.units = X.A.units + 1 := rfl
    have : X.A.in1.units + 1 + (pyOf k).depth ≤ X.A.units + 64 := by omega
    omega
  refine wpAny_bind (wpAny_holding (list_sort_data (enc := pyOf) hoL pr er hal hso hks16 hcost fun out ho2 eo => ?_))
  obtain ⟨rs, hrs, er2⟩ := each_vals (s := s.heap) eo
  obtain ⟨c, hcat⟩ := PyProof.Rows.sortedHeap_at (vs := acc.toList) (out := out.toArray) hoL
  have old : ∀ b o, h'.get? b = some o → (sortedHeap (h'.push (seqObj "list" acc.toList.toArray 0)) h'.objs.size acc.toList out.toArray).get? b = some o := fun b o e => by
    have hlt := Heap.lt_size e
    rw [sortedHeap_old (Nat.ne_of_lt hlt) (by rw [Heap.size_push]; exact Nat.lt_succ_of_lt hlt)]
    exact Heap.get?_push_of_some _ e
  have hl4 : rs.length = ks.length := by
    rw [er2.length, List.length_mergeSort]
  refine wpAny_pure ⟨_, rfl, ?_⟩
  refine ⟨.ref h'.objs.size, upd H h'.objs.size (.lst rs), I1.laid (t' := tk) old (Nat.le_refl _) ⟨by rw [hl4]; exact hks16, out, c, hrs, hcat⟩, rfl, q _ rs (I1.hok.fresh (Nat.le_refl _)) er2⟩
end SDT
namespace Z
open PySem L2 SDT PySem.W
theorem rels_sorted {K : PySem.W.Frag} {H : Hp} : ∀ {rs : List V} {ks : List (List Int)}, EachIs (fun v (k : List Int) => ∃ b, v = .ref b ∧ H b = some (.tup (k.map V.int))) rs ks → Rels K H rs (ks.map fun k => D.tup (k.map D.int))
  | [], [], .nil => .nil
  | _ :: _, _ :: _, .cons ⟨b, e, h⟩ r => by
    subst e
    refine .cons (.tup (.inl h) ?_) (rels_sorted r)
    have : ∀ k : List Int, Rels K H (k.map V.int) (k.map D.int) := fun k => by
      induction k with
      | nil => exact .nil
      | cons i k ih => exact .cons (.int i) ih
    exact this _
theorem keys_rel {κ : Type} {K : PySem.W.Frag} {H : Hp} : ∀ {vs : List (κ × V)} {kvs : List (κ × D)}, RelKV K H vs kvs → vs.map (·.1) = kvs.map (·.1)
  | _, _, .nil => rfl
  | _, _, .cons a b => by rw [List.map_cons, List.map_cons, a.1, keys_rel b]
theorem rc_sortDT {K : PySem.W.Frag} {μ : M} {Φ : D → M → Prop} {a : Addr} {kvs : List (List Key × D)} {ks : List (List Int)} (h : μ a = some (.dT kvs)) (hk : kvs.map (·.1) = ks.map tkey) (hal : AllAlike (ks.map pyOf)) (hso : Sortable (ks.map pyOf))
    (q : ∀ p, μ p = none → Φ (.ref p) (μ.set p (.lst ((ks.mergeSort (dataLe false pyOf)).map fun k => D.tup (k.map D.int))))) : RC K rSortDT [.ref a] μ Φ := fun H xs c r Q k => by
  cases r with
  | cons r1 rr =>
    cases rr
    cases r1
    obtain ⟨vs, hv, hr⟩ := c _ _ h
    have e : vs.map (·.1) = kvs.map (·.1) := keys_rel hr
    refine ⟨a, vs, ks, rfl, hv, e.trans hk, hal, hso, fun p rs hp er => ?_⟩
    exact k _ _ _ _ (fr_put hp) (con_put (m := .lst _) hp c ⟨rs, upd_same, Rels.mono (tx_new hp) _ _ (rels_sorted er)⟩) (.ref p) (q p (c.free hp))
end Z
namespace STI
open PySem PySem.Spec PyProof.Rows L2 PySem.W SDT
end STI
namespace Z
open PySem L2 STI PySem.W
end Z
namespace Z
open PySem L2 PySem.W
end Z
namespace Z
open PySem L2 SD PySem.W
end Z
namespace Z
open PySem L2 PySem.W
end Z
namespace RZ3
open PySem PySem.Spec PyProof.Rows L2 RZ
/-- the six objects of such a zip are there, and none is a cell -/
theorem six {h : Heap} {z TI TO i1 i2 i3 a b c : Addr} {i : Nat} (rec : IsZip h z TI TO .none) (ins : PySem.IsTupOf3 h TI (.ref i1) (.ref i2) (.ref i3)) (out : ∃ x y u, PySem.IsTupOf3 h TO x y u) (s1 : h.IsTupleIter i1 a i) (s2 : h.IsTupleIter i2 b i) (s3 : h.IsTupleIter i3 c i) :
    ∀ d ∈ [z, TI, TO, i1, i2, i3], ∃ o, h.get? d = some o ∧ ∀ v, o.data ≠ .cell v := by
  have src : ∀ {j l : Addr}, h.IsTupleIter j l i → ∃ o, h.get? j = some o ∧ ∀ v, o.data ≠ .cell v := fun ⟨o, e, _, data⟩ => ⟨o, e, fun v q => nomatch data.symm.trans q⟩
  obtain ⟨x, y, u, out⟩ := out
  intro d hd
  simp only [List.mem_cons, List.not_mem_nil, or_false] at hd
  rcases hd with rfl | rfl | rfl | rfl | rfl | rfl
  · exact ⟨_, rec, nofun⟩
  · exact ⟨_, ins, nofun⟩
  · exact ⟨_, out, nofun⟩
  · exact src s1
  · exact src s2
  · exact src s3
end RZ3
namespace Z
open PySem L2 PySem.W RZ3
end Z
namespace Z
open PySem L2 PySem.W
def isN : D → Bool
  | .non => true
  | _ => false
theorem isN_rel {K : PySem.W.Frag} {H : Hp} {x : V} {d : D} (r : Rel K H x d) : decide (x = V.non) = isN d := by
  cases r <;> simp [isN]
theorem ro_isN {K : PySem.W.Frag} {μ : M} {Φ : D → M → Prop} {d : D} (q : Φ (.bl (isN d)) μ) : RO K (fun x y H Q => y = V.non ∧ Q (V.bl (decide (x = V.non))) H) d .non μ Φ := fun H x y c r1 r2 Q k => by
  cases r2
  rw [isN_rel r1]
  exact ⟨rfl, k _ μ _ H Fr.refl c (.bl _) q⟩
theorem ro_notN {K : PySem.W.Frag} {μ : M} {Φ : D → M → Prop} {d : D} (q : Φ (.bl (!isN d)) μ) : RO K (fun x y H Q => y = V.non ∧ Q (V.bl (!decide (x = V.non))) H) d .non μ Φ := fun H x y c r1 r2 Q k => by
  cases r2
  rw [isN_rel r1]
  exact ⟨rfl, k _ μ _ H Fr.refl c (.bl _) q⟩
end Z
namespace EN
open PySem PySem.Spec PyProof.Rows L2
/-- what enumerate.__new__ lays: the source's iterator, then its own record, at count 0 -/
theorem enum_lays {v : Value} {o : Obj} {H : Heap → Prop} (B : Begins v o H) : Meets (Builtin.«enumerate.__new__» ⟨[.type "enumerate", v], []⟩) (fun _ R z => H z.heap ∧
    R (.ok (.ret (.ref (z.heap.push o).objs.size))) { z with heap := (z.heap.push o).push { cls := .type "enumerate", data := .fields #[.none, .bool false, .ref z.heap.objs.size, rawInt 0, .none, .none] } }) := by
  refine .of_wp fun prog w A R z ⟨fit, goal⟩ => ?_
  rcases z with ⟨g, gs, dr, tk, os⟩
  have it : ∀ {A' : Around} {E' Q' : Value → Shared → Prop}, Q' (.ref g.objs.size) ⟨g.push o, gs, dr, tk, os⟩ → wpAny (model prog w) A' (pyIter v) Q' E' ⟨g, gs, dr, tk, os⟩ := fun q => B.iter prog w _ _ _ _ fit q
  have itself := sub_enumerate
  wp_walk using it
  apply wpAny_stack_any
  intro frames
  apply wpAny_pure
  split
  next c _ _ _ _ _ => cases c == Value.type "enumerate" <;> (wp_walk using it; exact ⟨_, rfl, goal⟩)
  next => wp_walk using it; exact ⟨_, rfl, goal⟩
section
variable {prog : Program} {w : World} {A : Around} {E : Value → Shared → Prop} {s : Shared}
theorem enum_begins1 {v : Value} {o : Obj} {H : Heap → Prop} {Q : Value → Shared → Prop} (B : Begins v o H) (fit : H s.heap)
    (q : ∀ g, IsEnum g (s.heap.objs.size + 1) s.heap.objs.size 0 .none → g.get? s.heap.objs.size = some o → (∀ b u, s.heap.get? b = some u → g.get? b = some u) → Q (.ref (s.heap.objs.size + 1)) { s with heap := g }) :
    wpAny (model prog w) A (call (.type "enumerate") [v]) Q E s := by
  have grown : (s.heap.push o).objs.size = s.heap.objs.size + 1 := Heap.size_push ..
  have lays := enum_lays B
  apply callType_new F.called_enumerate (by decide) (F.typeCall_enumerate_1 _) (F.newCall_enumerate_1 _) (fun obj => F.args_object_init_2 obj _) F.entry_enumerate_new lays
  rw [grown]
  have top : ∀ e : Obj, e.isFreed = false → ((s.heap.push o).push e).get? (s.heap.objs.size + 1) = some e := fun e he => by
    rw [← grown]
    exact Heap.get?_push_size _ he
  exact ⟨fit, ⟨_, top _ rfl, rfl⟩, q _ (top _ rfl) (Heap.get?_push_of_some _ (Heap.get?_push_size _ B.free)) fun b u e => Heap.get?_push_of_some _ (Heap.get?_push_of_some _ e)⟩
end
/-- enumerate of a tuple -/
def iEnum0 (K : PySem.W.Frag) (ta : TA) : TI := fun σ H R => ta σ H fun vs H1 => ∃ a xs, vs = [.ref a] ∧ SqT K H1 a xs ∧ R (EK.IteT K a 0) H1
theorem pi_enum0 {X : Cx} {K : PySem.W.Frag} {e : Expr} {ta : TA} {p pos tpos : Pos} {elts : List Expr} {kk : Nat} (hK : X.K = K) (hg : Gl X "enumerate") (hm : X.mg "enumerate" = none) (ha : PA X [e] ta) (hs : starEach [e] X.env = [(false, eval e X.env)] := by rfl) :
    PI X (.Tuple elts kk tpos) (.Call (.Name "enumerate" p) [e] [] pos) (iEnum0 K ta) := by
  subst hK
  constructor
  intro pins s σ H R I h
  refine Call_ (ld_blt I hg hm boot_enumerate ?_)
  refine PyProof.Rows.callWith_type1 (thn (ha.run pos pins s σ H _ I h) ?_) hs rfl
  rintro us s1 ⟨_, H1, I1, vals, a, xs, rfl, isT, q⟩
  obtain _ | ⟨r, _ | _⟩ := vals
  obtain rfl := show _ = Value.ref a from r
  obtain ⟨ys, _, at_, _⟩ := I1.tuple isT
  apply enum_begins1 (begins_tuple a ys.toArray) at_
  intro g rec itr kept
  apply wpAny_pyIter_enum rec
  have J : Inv X pins σ H1 { s1 with heap := g } := I1.kept (t' := s1.toks) kept
  refine ⟨s1.heap.objs.size + 1, [s1.heap.objs.size + 1, s1.heap.objs.size], _, _, H1, rfl, J, EK.turn_enumT a (s1.heap.objs.size + 1) s1.heap.objs.size 0, ⟨⟨.none, ?_⟩, ⟨_, itr, rfl, rfl⟩, Nat.succ_ne_self _⟩, ?_, q⟩
  · simpa using rec
  · intro b hb
    have new : s1.heap.objs.size ≤ b := by
      rcases List.mem_cons.mp hb with e | e
      · exact e ▸ Nat.le_succ _
      · exact Nat.le_of_eq (List.mem_singleton.mp e).symm
    exact I1.fpOk new (I1.hok.fresh new)
theorem pi_enumL {X : Cx} {K : PySem.W.Frag} {e : Expr} {ta : TA} {p pos tpos : Pos} {elts : List Expr} {kk : Nat} (hK : X.K = K) (hg : Gl X "enumerate") (hm : X.mg "enumerate" = none) (ha : PA X [e] ta) (hs : starEach [e] X.env = [(false, eval e X.env)] := by rfl) :
    PI X (.Tuple elts kk tpos) (.Call (.Name "enumerate" p) [e] [] pos) (iEnum K ta) := by
  subst hK
  exact pi_enum hg hm ha hs
end EN
namespace Z
open PySem L2 EK EN
section
variable {K : PySem.W.Frag} {τ : T} {μ μ1 μ2 : M} {H H1 H2 H' : Hp} {ta : TA} {Ψ : List D → M → (M → M) → Prop}
theorem ai_E0 (h : AA K ta τ μ fun ds μ1 => ∃ xs, ds = [.tup xs] ∧ Ψ (enumD 0 xs) μ1 id) : AI K (iEnum0 K ta) τ μ Ψ := fun σ H s c R k => h σ H s c _ fun ds μ1 vs H1 f1 c1 r1 ⟨xs, e, q⟩ => by
  subst e
  cases r1 with
  | cons r rr =>
    cases rr
    cases r with
    | @tup a us _ ha hr => exact ⟨a, us, rfl, ha.sq, k _ _ _ _ H1 μ1 id (f1.tx c) c1 (walk_E hr) ⟨ha, hr⟩ (fun _ z => z.elim) (back_id f1) q⟩
theorem walk_EL {a : Addr} {vs : List V} {ds : List D} (hr : Rels K H1 vs ds) : WalkD K (Ite K a) (enumD 0 ds) (fun b => b = a) (fun H' => H' a = some (.lst vs) ∧ Rels K H' vs ds) where
  keep := fun H H' μ μ' c o g f => ⟨(f a _ (o a rfl) g.1).1, Rels.mono (f.tx c) _ _ g.2⟩
  oo := fun _ b g h => by subst h; exact ⟨_, g.1⟩
  go := fun i H' hi g => by
    rw [enumD_len, ← hr.length] at hi
    exact ⟨vs, vs[i], SqL.of g.1, List.getElem?_eq_getElem hi⟩
  stop := fun i H' hi g => by
    rw [enumD_len, ← hr.length] at hi
    exact ⟨vs, SqL.of g.1, hi⟩
  yld := fun i H' v H2 hi g y => by
    obtain ⟨T0, x, e, hT, e2, q1⟩ := y
    obtain ⟨d1, k1, r1⟩ := g.2.getV (q1 vs (SqL.of g.1))
    refine ⟨_, enumD_get k1, ?_, .inr ⟨T0, _, hT, e2⟩⟩
    subst e e2
    rw [Int.zero_add]
    exact .tup (.inl upd_same) (.cons (.int _) (.cons (Rel.mono (tx_new hT) _ _ r1) .nil))
theorem ai_EL (h : AA K ta τ μ fun ds μ1 => ∃ a xs, ds = [.ref a] ∧ μ1 a = some (.lst xs) ∧ Ψ (enumD 0 xs) (μ1.del a) (fun μ' => μ'.set a (.lst xs))) : AI K (iEnum K ta) τ μ Ψ := fun σ H s c R k => h σ H s c _ fun ds μ1 vs H1 f1 c1 r1 ⟨a, xs, e, hl, q⟩ => by
  subst e
  cases r1 with
  | cons r rr =>
    cases rr
    cases r
    obtain ⟨us, hx, hr⟩ := c1 a _ hl
    exact ⟨a, us, rfl, SqL.of hx, k _ _ _ _ H1 (μ1.del a) _ (f1.tx c) (c1.sub del_sub) (walk_EL hr) ⟨hx, hr⟩ (fun b z => by rw [z]; exact del_same) (back_set c1 hl hx hr f1) q⟩
end
end Z
namespace Z
open PySem L2 OD PySem.W
theorem depth_ints : ∀ xs : List Int, PyData.depthAll (xs.map PyData.int) = 0
  | [] => rfl
  | x :: xs => by
    have e := depth_ints xs
    simp [PyData.depthAll, PyData.depth, e]
end Z
namespace Z
open PySem L2 PySem.W
end Z
namespace ITT
open PySem PySem.Spec PyProof.Rows L2 PySem.W
section
variable {X : Cx} {pins : List (Addr × Obj)} {σ : L2.St} {H : Hp} {s : Shared} {d : Addr} {o : Obj}
/-- what a locked dict of ours is in the heap: its entries, pair by pair -/
structure LockT (H : Hp) (s : Shared) (d : Addr) (o : Obj) (kvs : List (List Key × V)) (es : Array DictEntry) (ep : Nat) : Prop where
  other : (d == sysModules) = false
  raw : DT.Raw s.heap d es ep
  own : s.heap.get? d = some o ∧ o.dict = none
  size : es.size = kvs.length
  pair : ∀ (i : Nat) (k : List Key) (v : V), kvs[i]? = some (k, v) → ∃ (en : DictEntry) (q : Addr), es[i]? = some en ∧ en.key = .ref q ∧ H q = some (.tup (k.map kV)) ∧ RelV v en.val
theorem lockT {kvs : List (List Key × V)} (I : Inv X pins σ H s) (h : H d = some (.frz o (.dT kvs))) : ∃ es ep, o.data = .dict es ep ∧ LockT H s d o kvs es ep := by
  obtain ⟨at_, _, other, xs, keys, o', es, ep, at', plain, data, laid, _⟩ := I.hok d _ h
  obtain rfl : o = o' := Option.some.inj (at_.symm.trans at')
  refine ⟨es, ep, data, other, ⟨o, at_, plain, data⟩, ⟨at_, plain.2.1⟩, (size_of_entries laid).trans (Paired.length keys).symm, ?_⟩
  intro i k v e
  obtain ⟨p, hp, _, isT, rv⟩ := paired_get keys e
  have there := entry_at laid i
  rw [hp] at there
  exact ⟨_, p.2.1, there, rfl, isT, rv⟩
end
/-- the pairs of a locked dict, each a new tuple of the key's own tuple and the value -/
def ItiT (d : Addr) (o : Obj) (kvs : List (List Key × V)) : It :=
  ⟨fun i H => H d = some (.frz o (.dT kvs)) ∧ i < kvs.length, fun i H x H' => ∃ T k v q, kvs[i]? = some (k, v) ∧ x = .ref T ∧ H q = some (.tup (k.map kV)) ∧ H T = none ∧ H' = upd H T (.tup [.ref q, v]), fun i H => H d = some (.frz o (.dT kvs)) ∧ kvs.length ≤ i⟩
section
variable {P : Program} {w : World} {K : PySem.W.Frag} {tg : Expr} {d : Addr} {o : Obj} {es : Array DictEntry} {ep : Nat}
theorem turn_itemsT {kvs : List (List Key × V)} {elts : List Expr} {kk : Nat} {tpos : Pos} (it : Addr) (hod : o.data = .dict es ep) :
    Turn P w K (.Tuple elts kk tpos) (ItiT d o kvs) [it] it (fun i h => ∃ ok ov, IsItemIter h it d i kvs.length ep ok ov) where
  mem := List.mem_cons_self
  obj := by
    rintro i h ⟨ok, ov, at_⟩ b hb
    obtain rfl := List.mem_singleton.mp hb
    exact ⟨_, at_, nofun⟩
  keep := fun i h h' ⟨ok, ov, at_⟩ kept => ⟨ok, ov, kept it List.mem_cons_self _ at_⟩
  item := by
    rintro X rfl rfl rfl calm i pins s σ H E I hid ⟨ok, ov, at_⟩ ⟨isD, lt⟩
    obtain ⟨es', ep', data, L⟩ := lockT I isD
    obtain ⟨rfl, rfl⟩ := dict_ep hod data
    obtain ⟨en, q, hen, key, isT, rv⟩ := L.pair i _ _ (List.getElem?_eq_getElem lt)
    have lt' : i < es'.size := L.size ▸ lt
    obtain rfl : es'[i] = en := Option.some.inj ((Array.getElem?_eq_getElem lt').symm.trans hen)
    have low := Heap.lt_size at_
    rw [← L.size] at at_
    apply DT.nextI at_ L.raw lt'
    intro g out two _ kept
    rw [key] at out two
    refine ⟨_, rfl, wpAny_letOwnedTupleGo_items (s := { s with heap := g }) out fun g2 at2 but => ?_⟩
    have J := I.turnedNew (ch := [it]) (h' := g2) (t' := s.toks) (ob := .tup [.ref q, kvs[i].2])
      (fun b u nb z => by
        have ne : b ≠ it := fun y => nb (y ▸ List.mem_cons_self)
        exact (but.2 b ne).trans (kept b u ne z)) hid (Nat.le_refl s.heap.objs.size)
      ⟨(by decide : 2 ≤ sizeLine), [.ref q, es'[i].val], .cons rfl (.cons rv .nil), _, (but.2 _ (Nat.ne_of_gt low)).trans two, rfl, _, rfl⟩
    refine ⟨.ref s.heap.objs.size, _, J, rfl, ⟨_, _, _, q, List.getElem?_eq_getElem lt, rfl, isT, I.hok.fresh (Nat.le_refl _), rfl⟩, ⟨.ref q, es'[i].val, L.size ▸ at2⟩, ?_⟩
    intro b hb
    obtain rfl := List.mem_singleton.mp hb
    exact (upd_ne (Nat.ne_of_lt low)).trans (hid b hb).1
  done := by
    rintro X rfl rfl rfl calm i pins s σ H E I hid ⟨ok, ov, at_⟩ ⟨isD, over⟩
    obtain ⟨es', ep', data, L⟩ := lockT I isD
    obtain ⟨rfl, rfl⟩ := dict_ep hod data
    obtain ⟨h0, h1, _, h3, h4, h5⟩ := hid it List.mem_cons_self
    rw [← L.size] at at_ over
    apply DT.endI (I.ok.hd calm) at_ L.raw over
    exact fun g kept => ⟨rfl, I.turned (t' := s.toks) (fun b u ne z => kept b u ne z) h0 h1 h3 h4 h5⟩
  self := fun A i s Q E st h => let ⟨_, _, e⟩ := st; PySem.W.kcp_self e h
end
/-- for k, v in d.items(): the dict is locked -/
def iItemsT (td : TE) : TI := fun σ H R => td σ H fun x H1 => ∃ d o kvs, x = .ref d ∧ H1 d = some (.frz o (.dT kvs)) ∧ R (ItiT d o kvs) H1
section
variable {X : Cx} {tg e : Expr} {td : TE} {apos cpos : Pos}
theorem pi_itemsT {elts : List Expr} {kk : Nat} {tpos : Pos} (he : PE X e td) (hbase : attributeBase e "items" X.env (eval e X.env) = eval e X.env := by rfl) (hline : (apos.endLine == cpos.line) = true := by rfl) :
    PI X (.Tuple elts kk tpos) (.Call (.Attribute e "items" apos) [] [] cpos) (iItemsT td) := by
  refine ⟨fun pins s σ H R I h => ?_⟩
  refine wpAny_Call_method (T := "dict") (id := "dict.items") hbase rfl hline F.plainAttrs_dict F.slot_dict_items F.type_dict_items (thn (he.run pins s σ H _ I h) fun u s1 ⟨x, H1, I1, rx, d, o, kvs, ex, hd, q⟩ => ?_)
  subst ex
  obtain rfl : u = Value.ref d := rx
  obtain ⟨es, ep, data, L⟩ := lockT I1 hd
  refine ⟨L.raw.typeIs, fun a ha => by cases ha; exact ⟨o, L.own⟩, ?_⟩
  have view := Heap.get?_push_size s1.heap (o := { cls := .type "dict_items", data := .fields #[.ref d] }) rfl
  have J : Inv X pins σ H1 { s1 with heap := s1.heap.push { cls := .type "dict_items", data := .fields #[.ref d] } } := I1.kept (t' := s1.toks) fun b u z => Heap.get?_push_of_some _ z
  show wpAny _ _ (callWith cpos (.builtin "dict.items") [.ref d] [] []) _ X.xe s1
  refine method_meetsIn F.slot_dict_items F.entry_dict_items rfl (PySem.evalArgs_none ⟨rfl, L.raw.typeIs, F.args_dict_items_1 _, _, DT.meetsItems (es := es) (ep := ep) L.other, L.raw, ?_⟩)
  apply DT.iterI ⟨_, view, rfl, rfl⟩ (L.raw.push _)
  refine pi_one (tk := s1.toks) J _ (turn_itemsT _ data) ⟨.none, .none, ?_⟩ q
  rw [← L.size]
  exact Heap.get?_push_size _ rfl
end
/-- d.pop(k), the key there -/
def rPopT1 : V → List V → Hp → VK → Prop := fun x xs H Q => ∃ (a : Addr) (kvs : List (List L2.Key × V)) (k : List L2.Key) (b : Addr) (v : V), x = .ref a ∧ xs = [.ref b] ∧ H a = some (.dT kvs) ∧ H b = some (.tup (k.map kV)) ∧
  valV kvs k = some v ∧ Q v (upd H a (.dT (dropK kvs k)))
theorem mt_popT1 {X : Cx} (hu : X.A.units + 1 < cLine) : MtR X "dict.pop" rPopT1 := by
  intro pins s σ H x xs v us Q I rx rxs h
  obtain ⟨a, kvs, k, b, v0, rfl, rfl, ha, hb, ev, q1⟩ := h
  cases rx
  obtain ⟨u1, rfl, r1⟩ := vals1 rxs
  cases r1
  obtain ⟨z, hd, xs', rel, dd⟩ := dt_of I.hok ha
  have hz : xs'.length ≤ sizeLine := by rw [← Paired.length rel]; exact z
  have r := rel.val k
  rw [ev] at r
  obtain ⟨p, hp, rv⟩ : ∃ p, atKey xs' k = some p ∧ RelV v0 p.2 := by
    cases e : atKey xs' k with
    | none => rw [e] at r; exact (show False from r).elim
    | some p => rw [e] at r; exact ⟨p, rfl, r⟩
  refine call_pop_heap (knd := tupleKind (mixKind X.prog X.w)) (k := k) (more := []) (.inl rfl) (PySem.F.args_dict_pop_2 _ _) (tupleKind_room_in1 hu) (key_of I.hok hb) hd dd hp (fun h' dd' hs => ?_) hz
  obtain ⟨o, es, ep, hq, h2, h3, h4, _, h5⟩ := dd'
  have I2 : Inv X pins σ (upd H a (.dT (dropK kvs k))) { s with heap := h', toks := s.toks + (tupleKind (mixKind X.prog X.w)).draws k } :=
    d_write I (by rw [ha]; exact True.intro) hs ⟨o, hq⟩ ⟨Nat.le_trans (dropK_le kvs k) z, hd, _, (DX.KT_drop k rel).keeps (fun c ys ec => (by rw [upd_ne (ne_of ec ha (fun z => nomatch z))]; exact ec)), o, es, ep, hq, h2, h3, h4, h5⟩
  exact ⟨v0, _, I2, rv, q1⟩
/-- i *= e -/
theorem ip_mulW {X : Cx} : PIp X .Mult (rI CMulW fun i j => .int (i * j)) := by
  intro pins s σ H x y v u Q I r1 r2 h
  obtain ⟨i, j, e1, e2, hc, q⟩ := h
  subst e1; subst e2
  obtain ⟨t, rfl⟩ := r1
  obtain ⟨t', rfl⟩ := r2
  exact PyProof.Rows.imul_int ⟨.int _, H, I.tok _, ⟨_, rfl⟩, q⟩ hc.ok
end ITT
namespace Z
open PySem L2 ITT PySem.W
section
variable {K : PySem.W.Frag} {τ : T} {μ μ1 μ2 : M} {H H1 H2 H' : Hp} {td to te : TE} {ts : TS} {N : AEnds} {Φ : D → M → Prop} {Ψ : List D → M → (M → M) → Prop}
/-- (a, b), c as a target -/
theorem tg_21 {i j k : Nat} : TgOk K (gTup K 2 (gCons (gTup K 2 (gCons (gName i) (gCons (gName j) gNil))) (gCons (gName k) gNil))) [i, j, k] fun d ds => ∃ x y z, d = .tup [.tup [x, y], z] ∧ ds = [x, y, z] := fun d ds v σ H ⟨x, y, z, e1, e2⟩ r Q q => by
  subst e1 e2
  cases r with
  | @tup a xs _ ht hr =>
    cases hr with
    | cons r1 rr =>
    cases rr with
    | cons r2 r3 =>
    cases r3
    cases r1 with
    | @tup b ys _ hb hs =>
    cases hs with
    | cons s1 ss =>
    cases ss with
    | cons s2 s3 =>
    cases s3
    exact ⟨a, _, rfl, ht.sq, rfl, _, _, rfl, b, _, rfl, hb.sq, rfl, _, _, rfl, _, _, rfl, rfl, _, _, rfl, rfl, q _ (.cons s1 (.cons s2 (.cons r2 .nil)))⟩
def itemsD (kvs : List (List Key × D)) : List D := kvs.map fun p => .tup [kT p.1, p.2]
theorem kv_getR : ∀ {κ : Type} {vs : List (κ × V)} {kvs : List (κ × D)} {i : Nat} {k : κ} {v : V}, RelKV K H vs kvs → vs[i]? = some (k, v) → ∃ d, kvs[i]? = some (k, d) ∧ Rel K H v d
  | _, [], [], i, k, v, .nil, z => by simp at z
  | _, p :: vs, q :: kvs, 0, k, v, .cons a b, z => by
    obtain ⟨e1, r⟩ := a
    simp at z
    subst z
    exact ⟨q.2, by simp [show k = q.1 from e1], r⟩
  | _, p :: vs, q :: kvs, i + 1, k, v, .cons a b, z => by
    obtain ⟨d, hd, r⟩ := kv_getR (i := i) b (by simpa using z)
    exact ⟨d, by simpa using hd, r⟩
theorem walk_itT {a : Addr} {od : Obj} {us : List (List Key × V)} {kvs : List (List Key × D)} (hr : RelKV K H1 us kvs) : WalkD K (ItiT a od us) (itemsD kvs) (fun b => b = a) (fun H' => H' a = some (.frz od (.dT us)) ∧ RelKV K H' us kvs) where
  keep := fun H H' μ μ' c o g f => ⟨(f a _ (o a rfl) g.1).1, RelKV.mono (f.tx c) g.2⟩
  oo := fun _ b g h => by subst h; exact ⟨_, g.1⟩
  go := fun i H' hi g => ⟨g.1, by unfold itemsD at hi; rw [List.length_map, ← kv_length hr] at hi; exact hi⟩
  stop := fun i H' hi g => ⟨g.1, by unfold itemsD at hi; rw [List.length_map, ← kv_length hr] at hi; exact hi⟩
  yld := fun i H' v H2 hi g y => by
    obtain ⟨T0, k, w, q, hk, ev, hq, hT, e2⟩ := y
    obtain ⟨d, hd, rd⟩ := kv_getR g.2 hk
    subst ev e2
    refine ⟨.tup [kT k, d], by unfold itemsD; rw [List.getElem?_map, hd]; rfl, ?_, .inr ⟨T0, _, hT, rfl⟩⟩
    exact .tup (.inl upd_same) (.cons (Rel.mono (tx_new hT) _ _ (.tup (.inl hq) (rels_kV k))) (.cons (Rel.mono (tx_new hT) _ _ rd) .nil))
/-- over the items of a dict that is locked; the dict is set aside meanwhile -/
theorem ai_itT (h : AE K td τ μ fun o μ1 => ∃ a od us kvs, o = .ref a ∧ μ1 a = some (.fT od us kvs) ∧ Ψ (itemsD kvs) (μ1.del a) (fun μ' => μ'.set a (.fT od us kvs))) : AI K (iItemsT td) τ μ Ψ := fun σ H s c R k => h σ H s c _ fun o μ1 v H1 f1 c1 r1 ⟨a, od, us, kvs, e, hl, q⟩ => by
  subst e
  cases r1
  obtain ⟨ws, hx, hr, e⟩ := c1 a _ hl
  subst e
  refine ⟨a, od, ws, rfl, hx, k _ _ _ _ H1 (μ1.del a) _ (f1.tx c) (c1.sub del_sub) (walk_itT hr) ⟨hx, hr⟩ (fun b z => by rw [z]; exact del_same) ?_ q⟩
  exact {
    fr := fun μ' H' g => fr_back hl f1 g
    con := fun μ' H' g c => con_back (m := .fT od ws kvs) c ⟨ws, (g a _ del_same hx).1, RelKV.mono (g.tx (c1.sub del_sub)) hr, rfl⟩
    nw := fun μ' p hp n => by
      rw [set_ne (fun z => by rw [z, hx] at hp; cases hp)]
      exact n
    old := fun b o n e => (f1 b o n e).1 }
/-- a statement under the lock of the dict at p -/
theorem s_lockT {p : Addr} {kvs : List (List Key × D)} (hp : μ p = some (.dT kvs)) (h : ∀ od us, AS K ts τ (μ.set p (.fT od us kvs)) { nx := fun τ' μ' => μ' p = some (.fT od us kvs) ∧ N.nx τ' (μ'.set p (.dT kvs)), rt := fun d μ' => μ' p = some (.fT od us kvs) ∧ N.rt d (μ'.set p (.dT kvs)), bk := fun τ' μ' => μ' p = some (.fT od us kvs) ∧ N.bk τ' (μ'.set p (.dT kvs)), ct := fun τ' μ' => μ' p = some (.fT od us kvs) ∧ N.ct τ' (μ'.set p (.dT kvs)) }) : AS K (tLock ts) τ μ N := fun σ H s c E k => by
  obtain ⟨us, hv, hr⟩ := c p _ hp
  refine ⟨p, .dT us, hv, trivial, fun od => ?_⟩
  have tx := tx_mut (o := .frz od (.dT us)) c hp
  have fr := fr_mut (H := H) (o := .frz od (.dT us)) (m' := .fT od us kvs) hp
  refine h od us σ _ (s.mono tx) (con_mut c hp ⟨us, upd_same, RelKV.mono tx hr, rfl⟩) _ ⟨?_, ?_, ?_, ?_, ?_⟩
  · rintro τ' μ' σ' H' f c' s' ⟨hm, q⟩
    obtain ⟨ws, hw, hr2, e⟩ := c' p _ hm
    subst e
    have tx2 := tx_mut (o := .dT ws) c' hm
    have fr2 := fr_mut (H := H') (o := .dT ws) (m' := .dT kvs) hm
    exact ⟨hw, k.nx τ' _ σ' _ ((fr.trans f).trans fr2) (con_mut c' hm ⟨ws, upd_same, RelKV.mono tx2 hr2⟩) (s'.mono tx2) q⟩
  · rintro d μ' v H' f c' r ⟨hm, q⟩
    obtain ⟨ws, hw, hr2, e⟩ := c' p _ hm
    subst e
    have tx2 := tx_mut (o := .dT ws) c' hm
    have fr2 := fr_mut (H := H') (o := .dT ws) (m' := .dT kvs) hm
    exact ⟨hw, k.rt d _ v _ ((fr.trans f).trans fr2) (con_mut c' hm ⟨ws, upd_same, RelKV.mono tx2 hr2⟩) (Rel.mono tx2 _ _ r) q⟩
  · rintro τ' μ' σ' H' f c' s' ⟨hm, q⟩
    obtain ⟨ws, hw, hr2, e⟩ := c' p _ hm
    subst e
    have tx2 := tx_mut (o := .dT ws) c' hm
    have fr2 := fr_mut (H := H') (o := .dT ws) (m' := .dT kvs) hm
    exact ⟨hw, k.bk τ' _ σ' _ ((fr.trans f).trans fr2) (con_mut c' hm ⟨ws, upd_same, RelKV.mono tx2 hr2⟩) (s'.mono tx2) q⟩
  · rintro τ' μ' σ' H' f c' s' ⟨hm, q⟩
    obtain ⟨ws, hw, hr2, e⟩ := c' p _ hm
    subst e
    have tx2 := tx_mut (o := .dT ws) c' hm
    have fr2 := fr_mut (H := H') (o := .dT ws) (m' := .dT kvs) hm
    exact ⟨hw, k.ct τ' _ σ' _ ((fr.trans f).trans fr2) (con_mut c' hm ⟨ws, upd_same, RelKV.mono tx2 hr2⟩) (s'.mono tx2) q⟩
  · intro x1 x2 x3 x4 x5 x6 x7 x8 f' c' s' q
    exact q.elim
def dropKD (kvs : List (List Key × D)) (k : List Key) : List (List Key × D) := kvs.filter fun kv => decide (kv.1 ≠ k)
theorem kv_drop (k : List Key) : ∀ {vs : List (List Key × V)} {kvs : List (List Key × D)}, RelKV K H vs kvs → RelKV K H (dropK vs k) (dropKD kvs k)
  | [], [], .nil => .nil
  | (g, x) :: vs, (g', y) :: kvs, .cons a b => by
    obtain ⟨e, r⟩ := a
    have e : g = g' := e
    subst e
    have ih := kv_drop k b
    by_cases h : g = k
    · have z1 : dropK ((g, x) :: vs) k = dropK vs k := List.filter_cons_of_neg (by simp [h])
      have z2 : dropKD ((g, y) :: kvs) k = dropKD kvs k := List.filter_cons_of_neg (by simp [h])
      rw [z1, z2]
      exact ih
    · have z1 : dropK ((g, x) :: vs) k = (g, x) :: dropK vs k := List.filter_cons_of_pos (by simp [h])
      have z2 : dropKD ((g, y) :: kvs) k = (g, y) :: dropKD kvs k := List.filter_cons_of_pos (by simp [h])
      rw [z1, z2]
      exact .cons ⟨rfl, r⟩ ih
/-- d.pop(k) -/
theorem m_popT {a : Addr} {kvs : List (List Key × D)} {k0 : List Key} {d : D} (h : AE K to τ μ fun o μ1 => o = .ref a ∧ (∃ kvs', μ1 a = some (.dT kvs')) ∧ AE K te τ μ1 fun y μ2 => y = kT k0 ∧ μ2 a = some (.dT kvs) ∧ valD kvs k0 = some d ∧ Φ d (μ2.set a (.dT (dropKD kvs k0)))) :
    AE K (tBM K "dict" rPopT1 to (tCons te tNil)) τ μ Φ := fun σ H s c Q k =>
  h σ H s c _ fun o μ1 v H1 f1 c1 r1 ⟨e, ⟨es, he⟩, p1⟩ => by
    subst e
    cases r1
    obtain ⟨xs, hx, hr⟩ := c1 a _ he
    refine ⟨.inr (.inr (.inl ⟨rfl, .inr ⟨xs, hx⟩⟩)), p1 σ H1 (s.mono (f1.tx c)) c1 _ fun y μ2 u H2 f2 c2 r2 ⟨e0, h2, hv, q⟩ => ?_⟩
    subst e0
    obtain ⟨ys, hy, hr2⟩ := c2 a _ h2
    obtain ⟨b, e3, hb⟩ := rel_kT r2
    subst e3
    rcases kv_val hr2 k0 with ⟨_, e4⟩ | ⟨v1, d1, e4, e5, rv⟩
    · rw [e4] at hv; cases hv
    rw [e5] at hv
    cases hv
    have tx2 := tx_mut (o := .dT (dropK ys k0)) c2 h2
    exact ⟨a, ys, k0, b, v1, rfl, rfl, hy, hb, e4, k _ _ _ _ ((f1.trans f2).trans (fr_mut h2)) (con_mut (m' := .dT (dropKD kvs k0)) c2 h2 ⟨_, upd_same, kv_drop k0 (RelKV.mono tx2 hr2)⟩) (Rel.mono tx2 _ _ rv) q⟩
end
end Z
namespace OD2
open PySem PySem.Spec PyProof.Rows L2 PySem.W
end OD2
namespace Z
open PySem L2 OD2 PySem.W
end Z
namespace Tch
def ar (a b c : Int × Int) : Int := (b.1 - a.1) * (c.2 - a.2) - (b.2 - a.2) * (c.1 - a.1)
def Btw (x y z : Int) : Prop := (x ≤ z ∧ z ≤ y) ∨ (y ≤ z ∧ z ≤ x)
def Ovl (x y z w : Int) : Prop := (x ≤ z ∨ x ≤ w ∨ y ≤ z ∨ y ≤ w) ∧ (z ≤ x ∨ z ≤ y ∨ w ≤ x ∨ w ≤ y)
theorem btw_of {x y z : Int} (h : 0 ≤ (z - x) * (y - z)) : Btw x y z := by
  unfold Btw
  by_cases h1 : x ≤ z
  · by_cases h2 : z ≤ y
    · exact .inl ⟨h1, h2⟩
    · by_cases h3 : x = z
      · exact .inr ⟨by omega, by omega⟩
      · have : (z - x) * (y - z) < 0 := Int.mul_neg_of_pos_of_neg (by omega) (by omega)
        omega
  · by_cases h2 : y ≤ z
    · exact .inr ⟨h2, by omega⟩
    · have : (z - x) * (y - z) < 0 := Int.mul_neg_of_neg_of_pos (by omega) (by omega)
      omega
theorem of_btw {x y z : Int} (h : Btw x y z) : 0 ≤ (z - x) * (y - z) := by
  rcases h with ⟨h1, h2⟩ | ⟨h1, h2⟩
  · exact Int.mul_nonneg (by omega) (by omega)
  · exact Int.mul_nonneg_of_nonpos_of_nonpos (by omega) (by omega)
theorem sq_nn (x : Int) : 0 ≤ x * x := by
  rcases Int.le_total 0 x with h | h
  · exact Int.mul_nonneg h h
  · exact Int.mul_nonneg_of_nonpos_of_nonpos h h
theorem sq_pos {x : Int} (h : x ≠ 0) : 0 < x * x := by
  have h1 := sq_nn x
  have h2 : x * x ≠ 0 := fun z => h (by rcases Int.mul_eq_zero.mp z with h | h <;> exact h)
  omega
/-- from p * q ≥ 0 with p > 0 -/
theorem nn_of {p x : Int} (hp : 0 < p) (h : 0 ≤ x * p) : 0 ≤ x := by
  rcases Int.lt_or_le x 0 with hx | hx
  · have := Int.mul_neg_of_neg_of_pos hx hp
    omega
  · exact hx
theorem id1 (a b c d : Int × Int) : ar a b c - ar a b d = ar c d b - ar c d a := by unfold ar; grind
theorem id2 (a b c d : Int × Int) : a.1 * ar c d b - b.1 * ar c d a = d.1 * ar a b c - c.1 * ar a b d := by unfold ar; grind
theorem id3 (a b c d : Int × Int) : a.2 * ar c d b - b.2 * ar c d a = d.2 * ar a b c - c.2 * ar a b d := by unfold ar; grind
theorem id4 (a b c d : Int × Int) (h : ar a b c = 0) : (c.1 - a.1) * (ar c d b - ar c d a) = (b.1 - a.1) * (- ar c d a) := by unfold ar at *; grind
theorem id5 (a b c d : Int × Int) (h : ar a b c = 0) : (b.1 - c.1) * (ar c d b - ar c d a) = (b.1 - a.1) * ar c d b := by unfold ar at *; grind
theorem id6 (a b c d : Int × Int) (h : ar a b c = 0) : (c.2 - a.2) * (ar c d b - ar c d a) = (b.2 - a.2) * (- ar c d a) := by unfold ar at *; grind
theorem id7 (a b c d : Int × Int) (h : ar a b c = 0) : (b.2 - c.2) * (ar c d b - ar c d a) = (b.2 - a.2) * ar c d b := by unfold ar at *; grind
def Lies (a b c : Int × Int) : Prop := Btw a.1 b.1 c.1 ∧ Btw a.2 b.2 c.2 ∧ ar a b c = 0
/-- the two pieces as boxes overlap, and no piece parts the ends of the other -/
def TouchP (a b c d : Int × Int) : Prop := Ovl a.1 b.1 c.1 d.1 ∧ Ovl a.2 b.2 c.2 d.2 ∧ ar a b c * ar a b d ≤ 0 ∧ ar c d a * ar c d b ≤ 0
def MeetP (a b c d : Int × Int) : Prop := Lies a b c ∨ Lies a b d ∨ Lies c d a ∨ Lies c d b ∨ (ar a b c * ar a b d < 0 ∧ ar c d a * ar c d b < 0)
theorem sw1 (a b c : Int × Int) : ar b a c = - ar a b c := by unfold ar; grind
/-- an end on the other piece: the other piece's ends are not parted the same way -/
theorem lies_opp {a b c : Int × Int} (d : Int × Int) (h : Lies a b c) : ar c d a * ar c d b ≤ 0 := by
  obtain ⟨h1, h2, h3⟩ := h
  have k1 := of_btw h1
  have k2 := of_btw h2
  -- p = a - c, q = b - c
  have e1 : (c.1 - a.1) * (b.1 - c.1) = -((a.1 - c.1) * (b.1 - c.1)) := by grind
  have e2 : (c.2 - a.2) * (b.2 - c.2) = -((a.2 - c.2) * (b.2 - c.2)) := by grind
  have eC : (a.1 - c.1) * (b.2 - c.2) = (a.2 - c.2) * (b.1 - c.1) := by unfold ar at h3; grind
  by_cases hA : (a.1 - c.1) * (b.1 - c.1) = 0
  · -- then C = 0
    have hC : (a.1 - c.1) * (b.2 - c.2) = 0 := by
      rcases Int.mul_eq_zero.mp hA with h | h
      · rw [h, Int.zero_mul]
      · rw [eC, h, Int.mul_zero]
    have e : ar c d a * ar c d b = ((d.1 - c.1) * (d.1 - c.1)) * ((a.2 - c.2) * (b.2 - c.2)) := by unfold ar; grind
    rw [e]
    exact Int.mul_nonpos_of_nonneg_of_nonpos (sq_nn _) (by omega)
  · have hA' : 0 < -((a.1 - c.1) * (b.1 - c.1)) := by omega
    have e : (-(ar c d a * ar c d b)) * (-((a.1 - c.1) * (b.1 - c.1))) = ((d.1 - c.1) * ((a.1 - c.1) * (b.2 - c.2)) - (d.2 - c.2) * ((a.1 - c.1) * (b.1 - c.1))) * ((d.1 - c.1) * ((a.1 - c.1) * (b.2 - c.2)) - (d.2 - c.2) * ((a.1 - c.1) * (b.1 - c.1))) := by unfold ar; grind
    have := nn_of hA' (by rw [e]; exact sq_nn _)
    omega
theorem ovl_of_btw {x y z w : Int} (h : Btw x y z) : Ovl x y z w := by unfold Btw Ovl at *; omega
theorem ovl_sw {x y z w : Int} (h : Ovl x y z w) : Ovl z w x y := by unfold Ovl at *; omega
theorem ovl_sw2 {x y z w : Int} (h : Ovl x y z w) : Ovl x y w z := by unfold Ovl at *; omega
theorem touch_of_lies {a b c : Int × Int} (d : Int × Int) (h : Lies a b c) : TouchP a b c d :=
  ⟨ovl_of_btw h.1, ovl_of_btw h.2.1, by rw [h.2.2, Int.zero_mul]; exact Int.le_refl _, lies_opp d h⟩
theorem touch_sw {a b c d : Int × Int} (h : TouchP a b c d) : TouchP c d a b := ⟨ovl_sw h.1, ovl_sw h.2.1, h.2.2.2, h.2.2.1⟩
theorem touch_sw2 {a b c d : Int × Int} (h : TouchP a b c d) : TouchP a b d c :=
  ⟨ovl_sw2 h.1, ovl_sw2 h.2.1, by rw [Int.mul_comm]; exact h.2.2.1, by rw [sw1 c d a, sw1 c d b, Int.neg_mul_neg]; exact h.2.2.2⟩
/-- strictly parted both ways: the boxes overlap -/
theorem ovl_strict {x1 x2 y1 y2 p q r s : Int} (e : x1 * q - x2 * p = y2 * r - y1 * s) (ew : r - s = q - p) (h1 : r * s < 0) (h2 : p * q < 0) : Ovl x1 x2 y1 y2 := by
  -- signs
  have sg : (0 < r ∧ s < 0) ∨ (r < 0 ∧ 0 < s) := by
    rcases Int.lt_trichotomy r 0 with h | h | h
    · rcases Int.lt_trichotomy s 0 with k | k | k
      · have := Int.mul_pos_of_neg_of_neg h k; omega
      · rw [k, Int.mul_zero] at h1; omega
      · exact .inr ⟨h, k⟩
    · rw [h, Int.zero_mul] at h1; omega
    · rcases Int.lt_trichotomy s 0 with k | k | k
      · exact .inl ⟨h, k⟩
      · rw [k, Int.mul_zero] at h1; omega
      · have := Int.mul_pos h k; omega
  have sg2 : (0 < q ∧ p < 0) ∨ (q < 0 ∧ 0 < p) := by
    rcases Int.lt_trichotomy q 0 with h | h | h
    · rcases Int.lt_trichotomy p 0 with k | k | k
      · have := Int.mul_pos_of_neg_of_neg k h; omega
      · rw [k, Int.zero_mul] at h2; omega
      · exact .inr ⟨h, k⟩
    · rw [h, Int.mul_zero] at h2; omega
    · rcases Int.lt_trichotomy p 0 with k | k | k
      · exact .inl ⟨h, k⟩
      · rw [k, Int.zero_mul] at h2; omega
      · have := Int.mul_pos k h; omega
  -- if one box lies strictly ahead of the other
  have key : ∀ {p q r s : Int}, x1 * q - x2 * p = y2 * r - y1 * s → r - s = q - p → 0 < r → s < 0 → 0 < q → p < 0 → Ovl x1 x2 y1 y2 := by
    intro p q r s e ew hr hs hq hp
    unfold Ovl
    refine ⟨?_, ?_⟩
    · -- not both x above both y
      refine Classical.byContradiction fun n => ?_
      have a1 : y1 + 1 ≤ x1 := by omega
      have a2 : y2 + 1 ≤ x1 := by omega
      have a3 : y1 + 1 ≤ x2 := by omega
      have a4 : y2 + 1 ≤ x2 := by omega
      -- least x
      have m : ∃ m, y1 < m ∧ y2 < m ∧ m ≤ x1 ∧ m ≤ x2 := by
        by_cases h : x1 ≤ x2
        · exact ⟨x1, by omega, by omega, by omega, h⟩
        · exact ⟨x2, by omega, by omega, by omega, by omega⟩
      obtain ⟨m, b1, b2, b3, b4⟩ := m
      have c1 := Int.mul_le_mul_of_nonneg_right b3 (show 0 ≤ q by omega)
      have c2 := Int.mul_le_mul_of_nonneg_right b4 (show 0 ≤ -p by omega)
      have c3 := Int.mul_lt_mul_of_pos_right b2 hr
      have c4 := Int.mul_lt_mul_of_pos_right b1 (show 0 < -s by omega)
      have e2 : m * q + m * -p = m * r + m * -s := by
        have : m * (q - p) = m * (r - s) := by rw [ew]
        grind
      grind
    · refine Classical.byContradiction fun n => ?_
      have m : ∃ m, m < y1 ∧ m < y2 ∧ x1 ≤ m ∧ x2 ≤ m := by
        by_cases h : x1 ≤ x2
        · exact ⟨x2, by omega, by omega, h, by omega⟩
        · exact ⟨x1, by omega, by omega, by omega, by omega⟩
      obtain ⟨m, b1, b2, b3, b4⟩ := m
      have c1 := Int.mul_le_mul_of_nonneg_right b3 (show 0 ≤ q by omega)
      have c2 := Int.mul_le_mul_of_nonneg_right b4 (show 0 ≤ -p by omega)
      have c3 := Int.mul_lt_mul_of_pos_right b2 hr
      have c4 := Int.mul_lt_mul_of_pos_right b1 (show 0 < -s by omega)
      have e2 : m * q + m * -p = m * r + m * -s := by
        have : m * (q - p) = m * (r - s) := by rw [ew]
        grind
      grind
  rcases sg with ⟨hr, hs⟩ | ⟨hr, hs⟩
  · rcases sg2 with ⟨hq, hp⟩ | ⟨hq, hp⟩
    · exact key e ew hr hs hq hp
    · omega
  · rcases sg2 with ⟨hq, hp⟩ | ⟨hq, hp⟩
    · omega
    · exact key (p := -p) (q := -q) (r := -r) (s := -s) (by grind) (by omega) (by omega) (by omega) (by omega) (by omega)
theorem touch_of_meet {a b c d : Int × Int} (h : MeetP a b c d) : TouchP a b c d := by
  rcases h with h | h | h | h | ⟨h1, h2⟩
  · exact touch_of_lies d h
  · exact touch_sw2 (touch_of_lies c h)
  · exact touch_sw (touch_of_lies b h)
  · exact touch_sw (touch_sw2 (touch_of_lies a h))
  · refine ⟨ovl_strict (id2 a b c d) ?_ h1 h2, ovl_strict (id3 a b c d) ?_ h1 h2, by omega, by omega⟩
    · exact id1 a b c d
    · exact id1 a b c d
/-- c on the line of a and b, d beside it -/
theorem lies_of {a b c d : Int × Int} (h : TouchP a b c d) (h1 : ar a b c = 0) (h2 : ar a b d ≠ 0) : Lies a b c := by
  have hW : ar c d b - ar c d a ≠ 0 := by
    have := id1 a b c d
    omega
  have hp := sq_pos hW
  have h4 := h.2.2.2
  refine ⟨btw_of ?_, btw_of ?_, h1⟩
  · have i4 := id4 a b c d h1
    have i5 := id5 a b c d h1
    refine nn_of hp ?_
    have e : (c.1 - a.1) * (b.1 - c.1) * ((ar c d b - ar c d a) * (ar c d b - ar c d a)) = ((b.1 - a.1) * (b.1 - a.1)) * (-(ar c d a * ar c d b)) := by
      have : (c.1 - a.1) * (b.1 - c.1) * ((ar c d b - ar c d a) * (ar c d b - ar c d a)) = ((c.1 - a.1) * (ar c d b - ar c d a)) * ((b.1 - c.1) * (ar c d b - ar c d a)) := by grind
      rw [this, i4, i5]
      grind
    rw [e]
    exact Int.mul_nonneg (sq_nn _) (by omega)
  · have i4 := id6 a b c d h1
    have i5 := id7 a b c d h1
    refine nn_of hp ?_
    have e : (c.2 - a.2) * (b.2 - c.2) * ((ar c d b - ar c d a) * (ar c d b - ar c d a)) = ((b.2 - a.2) * (b.2 - a.2)) * (-(ar c d a * ar c d b)) := by
      have : (c.2 - a.2) * (b.2 - c.2) * ((ar c d b - ar c d a) * (ar c d b - ar c d a)) = ((c.2 - a.2) * (ar c d b - ar c d a)) * ((b.2 - c.2) * (ar c d b - ar c d a)) := by grind
      rw [this, i4, i5]
      grind
    rw [e]
    exact Int.mul_nonneg (sq_nn _) (by omega)
/-- on a line that is not upright: between by x is between by y -/
theorem btw_line {p q r p' q' r' dx dy : Int} (hx : dx ≠ 0) (h1 : (r' - p') * dx = dy * (r - p)) (h2 : (q' - r') * dx = dy * (q - r)) (h : Btw p q r) : Btw p' q' r' := by
  refine btw_of (nn_of (sq_pos hx) ?_)
  have e : (r' - p') * (q' - r') * (dx * dx) = (dy * dy) * ((r - p) * (q - r)) := by
    have : (r' - p') * (q' - r') * (dx * dx) = ((r' - p') * dx) * ((q' - r') * dx) := by grind
    rw [this, h1, h2]
    grind
  rw [e]
  exact Int.mul_nonneg (sq_nn _) (of_btw h)
theorem ovl_ends {x y z w : Int} (h : Ovl x y z w) : Btw x y z ∨ Btw x y w ∨ Btw z w x ∨ Btw z w y := by unfold Ovl Btw at *; omega
/-- all on one line, which is not upright -/
theorem flat_x {a b c d : Int × Int} (hx : b.1 - a.1 ≠ 0) (o : Ovl a.1 b.1 c.1 d.1) (h1 : ar a b c = 0) (h2 : ar a b d = 0) (h3 : ar c d a = 0) (h4 : ar c d b = 0) : Lies a b c ∨ Lies a b d ∨ Lies c d a ∨ Lies c d b := by
  have l1 : (c.2 - a.2) * (b.1 - a.1) = (b.2 - a.2) * (c.1 - a.1) := by unfold ar at h1; grind
  have l2 : (d.2 - a.2) * (b.1 - a.1) = (b.2 - a.2) * (d.1 - a.1) := by unfold ar at h2; grind
  rcases ovl_ends o with k | k | k | k
  · exact .inl ⟨k, btw_line (dy := b.2 - a.2) hx l1 (by grind) k, h1⟩
  · exact .inr (.inl ⟨k, btw_line (dy := b.2 - a.2) hx l2 (by grind) k, h2⟩)
  · exact .inr (.inr (.inl ⟨k, btw_line (dy := b.2 - a.2) hx (by grind) (by grind) k, h3⟩))
  · exact .inr (.inr (.inr ⟨k, btw_line (dy := b.2 - a.2) hx (by grind) (by grind) k, h4⟩))
theorem flat_y {a b c d : Int × Int} (hx : b.2 - a.2 ≠ 0) (o : Ovl a.2 b.2 c.2 d.2) (h1 : ar a b c = 0) (h2 : ar a b d = 0) (h3 : ar c d a = 0) (h4 : ar c d b = 0) : Lies a b c ∨ Lies a b d ∨ Lies c d a ∨ Lies c d b := by
  have l1 : (c.1 - a.1) * (b.2 - a.2) = (b.1 - a.1) * (c.2 - a.2) := by unfold ar at h1; grind
  have l2 : (d.1 - a.1) * (b.2 - a.2) = (b.1 - a.1) * (d.2 - a.2) := by unfold ar at h2; grind
  rcases ovl_ends o with k | k | k | k
  · exact .inl ⟨btw_line (dy := b.1 - a.1) hx l1 (by grind) k, k, h1⟩
  · exact .inr (.inl ⟨btw_line (dy := b.1 - a.1) hx l2 (by grind) k, k, h2⟩)
  · exact .inr (.inr (.inl ⟨btw_line (dy := b.1 - a.1) hx (by grind) (by grind) k, k, h3⟩))
  · exact .inr (.inr (.inr ⟨btw_line (dy := b.1 - a.1) hx (by grind) (by grind) k, k, h4⟩))
theorem meet_of_touch {a b c d : Int × Int} (h : TouchP a b c d) : MeetP a b c d := by
  unfold MeetP
  have i1 := id1 a b c d
  by_cases z1 : ar a b c = 0
  · by_cases z2 : ar a b d = 0
    · -- all four
      have h4 := h.2.2.2
      have e : ar c d b = ar c d a := by omega
      have z3 : ar c d a = 0 := by
        refine Classical.byContradiction fun n => ?_
        have := sq_pos n
        rw [e] at h4
        omega
      have z4 : ar c d b = 0 := by omega
      by_cases hx : b.1 - a.1 = 0
      · by_cases hy : b.2 - a.2 = 0
        · -- a = b
          by_cases kx : d.1 - c.1 = 0
          · by_cases ky : d.2 - c.2 = 0
            · -- all one place
              have o1 := h.1
              have o2 := h.2.1
              refine .inl ⟨?_, ?_, z1⟩
              · unfold Ovl at o1; unfold Btw; omega
              · unfold Ovl at o2; unfold Btw; omega
            · rcases flat_y ky (ovl_sw h.2.1) z3 z4 z1 z2 with k | k | k | k
              · exact .inr (.inr (.inl k))
              · exact .inr (.inr (.inr (.inl k)))
              · exact .inl k
              · exact .inr (.inl k)
          · rcases flat_x kx (ovl_sw h.1) z3 z4 z1 z2 with k | k | k | k
            · exact .inr (.inr (.inl k))
            · exact .inr (.inr (.inr (.inl k)))
            · exact .inl k
            · exact .inr (.inl k)
        · rcases flat_y hy h.2.1 z1 z2 z3 z4 with k | k | k | k
          · exact .inl k
          · exact .inr (.inl k)
          · exact .inr (.inr (.inl k))
          · exact .inr (.inr (.inr (.inl k)))
      · rcases flat_x hx h.1 z1 z2 z3 z4 with k | k | k | k
        · exact .inl k
        · exact .inr (.inl k)
        · exact .inr (.inr (.inl k))
        · exact .inr (.inr (.inr (.inl k)))
    · exact .inl (lies_of h z1 z2)
  · by_cases z2 : ar a b d = 0
    · exact .inr (.inl (lies_of (touch_sw2 h) z2 z1))
    · by_cases z3 : ar c d a = 0
      · by_cases z4 : ar c d b = 0
        · -- then the first two are alike, their product is not above 0
          have e : ar a b c = ar a b d := by omega
          have h3 := h.2.2.1
          rw [e] at h3
          have := sq_pos z2
          omega
        · exact .inr (.inr (.inl (lies_of (touch_sw h) z3 z4)))
      · by_cases z4 : ar c d b = 0
        · exact .inr (.inr (.inr (.inl (lies_of (touch_sw2 (touch_sw h)) z4 z3))))
        · have h3 := h.2.2.1
          have h4 := h.2.2.2
          have n1 : ar a b c * ar a b d ≠ 0 := fun z => by rcases Int.mul_eq_zero.mp z with k | k <;> omega
          have n2 : ar c d a * ar c d b ≠ 0 := fun z => by rcases Int.mul_eq_zero.mp z with k | k <;> omega
          exact .inr (.inr (.inr (.inr ⟨by omega, by omega⟩)))
theorem touch_iff (a b c d : Int × Int) : TouchP a b c d ↔ MeetP a b c d := ⟨meet_of_touch, touch_of_meet⟩
end Tch
namespace Fr2
open Z Tch
theorem sgn_mul_neg (x y : Int) : sgn x * sgn y < 0 ↔ x * y < 0 := by
  unfold sgn
  rcases Int.lt_trichotomy x 0 with h | h | h <;> rcases Int.lt_trichotomy y 0 with k | k | k
  · have := Int.mul_pos_of_neg_of_neg h k
    rw [if_neg (by omega), if_pos h, if_neg (by omega), if_pos k]; omega
  · subst k; simp
  · have := Int.mul_neg_of_neg_of_pos h k
    rw [if_neg (by omega), if_pos h, if_pos k]; omega
  · subst h; simp
  · subst h; simp
  · subst h; simp
  · have := Int.mul_neg_of_pos_of_neg h k
    rw [if_pos h, if_neg (by omega), if_pos k]; omega
  · subst k; simp
  · have := Int.mul_pos h k
    rw [if_pos h, if_pos k]; omega
theorem sgn_mul_pos (x y : Int) : 0 < sgn x * sgn y ↔ 0 < x * y := by
  unfold sgn
  rcases Int.lt_trichotomy x 0 with h | h | h <;> rcases Int.lt_trichotomy y 0 with k | k | k
  · have := Int.mul_pos_of_neg_of_neg h k
    rw [if_neg (by omega), if_pos h, if_neg (by omega), if_pos k]; omega
  · subst k; simp
  · have := Int.mul_neg_of_neg_of_pos h k
    rw [if_neg (by omega), if_pos h, if_pos k]; omega
  · subst h; simp
  · subst h; simp
  · subst h; simp
  · have := Int.mul_neg_of_pos_of_neg h k
    rw [if_pos h, if_neg (by omega), if_pos k]; omega
  · subst k; simp
  · have := Int.mul_pos h k
    rw [if_pos h, if_pos k]; omega
theorem sgn_zero (x : Int) : sgn x = 0 ↔ x = 0 := by
  unfold sgn
  split
  · omega
  · split <;> omega
theorem sz_sgn (x : Int) : Sz 1 (sgn x) := by
  unfold sgn
  split
  · decide
  · split <;> decide
/-- sgn is alike where both are stretched -/
theorem sgn_scale {x y u v : Int} (hu : 0 < u) (hv : 0 < v) (h : x * u = y * v) : sgn x = sgn y := by
  have a : 0 < x ↔ 0 < y := by
    constructor
    · intro hx
      have := Int.mul_pos hx hu
      rcases Int.lt_or_le 0 y with k | k
      · exact k
      · have := Int.mul_nonpos_of_nonpos_of_nonneg k (Int.le_of_lt hv); omega
    · intro hx
      have := Int.mul_pos hx hv
      rcases Int.lt_or_le 0 x with k | k
      · exact k
      · have := Int.mul_nonpos_of_nonpos_of_nonneg k (Int.le_of_lt hu); omega
  have b : x < 0 ↔ y < 0 := by
    constructor
    · intro hx
      have := Int.mul_neg_of_neg_of_pos hx hu
      rcases Int.lt_or_le y 0 with k | k
      · exact k
      · have := Int.mul_nonneg k (Int.le_of_lt hv); omega
    · intro hx
      have := Int.mul_neg_of_neg_of_pos hx hv
      rcases Int.lt_or_le x 0 with k | k
      · exact k
      · have := Int.mul_nonneg k (Int.le_of_lt hu); omega
  unfold sgn
  by_cases h1 : 0 < x
  · rw [if_pos h1, if_pos (a.mp h1)]
  · rw [if_neg h1, if_neg (fun z => h1 (a.mpr z))]
    by_cases h2 : x < 0
    · rw [if_pos h2, if_pos (b.mp h2)]
    · rw [if_neg h2, if_neg (fun z => h2 (b.mpr z))]
def lessF (p q : Fq) : Fq := (p.1 * q.2 - q.1 * p.2, p.2 * q.2)
def psd (a b c : Pl) : Int := sgn ((lessF b.1 a.1).1 * (lessF c.2 a.2).1 * (lessF b.2 a.2).2 * (lessF c.1 a.1).2 - (lessF b.2 a.2).1 * (lessF c.1 a.1).1 * (lessF b.1 a.1).2 * (lessF c.2 a.2).2)
def lst (p q : Fq) : Bool := decide (p.1 * q.2 ≤ q.1 * p.2)
def ovl (a b c d : Fq) : Bool := lst (if lst a b = true then a else b) (if lst c d = true then d else c) && lst (if lst c d = true then c else d) (if lst a b = true then b else a)
def tch (a b c d : Pl) : Bool := ovl a.1 b.1 c.1 d.1 && (ovl a.2 b.2 c.2 d.2 && (!decide (0 < psd a b c * psd a b d) && decide (psd c d a * psd c d b ≤ 0)))
/-- s is p times g -/
def Sc (g : Int) (p : Fq) (s : Int) : Prop := s * p.2 = p.1 * g
def ScP (g : Int) (p : Pl) (s : Int × Int) : Prop := Sc g p.1 s.1 ∧ Sc g p.2 s.2
section
variable {g : Int} {p q : Fq} {s t : Int}
theorem lst_iff (hg : 0 < g) (hp : 0 < p.2) (hq : 0 < q.2) (h : Sc g p s) (k : Sc g q t) : lst p q = true ↔ s ≤ t := by
  unfold lst
  rw [decide_eq_true_iff]
  have e1 : (p.1 * q.2) * g = s * (p.2 * q.2) := by unfold Sc at h; grind
  have e2 : (q.1 * p.2) * g = t * (p.2 * q.2) := by unfold Sc at k; grind
  have hpq : 0 < p.2 * q.2 := Int.mul_pos hp hq
  constructor
  · intro l
    have := Int.mul_le_mul_of_nonneg_right l (Int.le_of_lt hg)
    rw [e1, e2] at this
    exact Int.le_of_mul_le_mul_right this hpq
  · intro l
    have := Int.mul_le_mul_of_nonneg_right l (Int.le_of_lt hpq)
    rw [← e1, ← e2] at this
    exact Int.le_of_mul_le_mul_right this hg
theorem lst_false (hg : 0 < g) (hp : 0 < p.2) (hq : 0 < q.2) (h : Sc g p s) (k : Sc g q t) : lst p q = false ↔ t < s := by
  have := lst_iff hg hp hq h k
  cases e : lst p q with
  | true => rw [e] at this; have := this.mp rfl; constructor <;> intro z <;> first | cases z | omega
  | false => rw [e] at this; constructor <;> intro z <;> first | rfl | (rcases Int.lt_or_le t s with k | k; exact k; exact absurd (this.mpr k) (by decide))
theorem ovl_iff {a b c d : Fq} {sa sb sc sd : Int} (hg : 0 < g) (ha : 0 < a.2) (hb : 0 < b.2) (hc : 0 < c.2) (hd : 0 < d.2) (xa : Sc g a sa) (xb : Sc g b sb) (xc : Sc g c sc) (xd : Sc g d sd) : ovl a b c d = true ↔ Ovl sa sb sc sd := by
  unfold ovl
  cases e1 : lst a b <;> cases e2 : lst c d
  · have h1 := (lst_false hg ha hb xa xb).mp e1
    have h2 := (lst_false hg hc hd xc xd).mp e2
    simp only [Bool.false_eq_true, if_false, Bool.and_eq_true]
    rw [lst_iff hg hb hc xb xc, lst_iff hg hd ha xd xa]
    unfold Ovl; omega
  · have h1 := (lst_false hg ha hb xa xb).mp e1
    have h2 := (lst_iff hg hc hd xc xd).mp e2
    simp only [Bool.false_eq_true, if_false, if_true, Bool.and_eq_true]
    rw [lst_iff hg hb hd xb xd, lst_iff hg hc ha xc xa]
    unfold Ovl; omega
  · have h1 := (lst_iff hg ha hb xa xb).mp e1
    have h2 := (lst_false hg hc hd xc xd).mp e2
    simp only [Bool.false_eq_true, if_false, if_true, Bool.and_eq_true]
    rw [lst_iff hg ha hc xa xc, lst_iff hg hd hb xd xb]
    unfold Ovl; omega
  · have h1 := (lst_iff hg ha hb xa xb).mp e1
    have h2 := (lst_iff hg hc hd xc xd).mp e2
    simp only [if_true, Bool.and_eq_true]
    rw [lst_iff hg ha hd xa xd, lst_iff hg hc hb xc xb]
    unfold Ovl; omega
theorem psd_eq {a b c : Pl} {sa sb sc : Int × Int} (hg : 0 < g) (ha : GoodP a) (hb : GoodP b) (hc : GoodP c) (xa : ScP g a sa) (xb : ScP g b sb) (xc : ScP g c sc) : psd a b c = sgn (ar sa sb sc) := by
  obtain ⟨⟨a1, _, _⟩, ⟨a2, _, _⟩⟩ := ha
  obtain ⟨⟨b1, _, _⟩, ⟨b2, _, _⟩⟩ := hb
  obtain ⟨⟨c1, _, _⟩, ⟨c2, _, _⟩⟩ := hc
  obtain ⟨p1, p2⟩ := xa
  obtain ⟨q1, q2⟩ := xb
  obtain ⟨r1, r2⟩ := xc
  unfold psd
  refine sgn_scale (u := g * g) (v := (b.1.2 * a.1.2) * (c.2.2 * a.2.2) * ((b.2.2 * a.2.2) * (c.1.2 * a.1.2))) (Int.mul_pos hg hg) ?_ ?_
  · exact Int.mul_pos (Int.mul_pos (Int.mul_pos b1 a1) (Int.mul_pos c2 a2)) (Int.mul_pos (Int.mul_pos b2 a2) (Int.mul_pos c1 a1))
  · have x1 : (lessF b.1 a.1).1 * g = (sb.1 - sa.1) * (b.1.2 * a.1.2) := by unfold lessF Sc at *; grind
    have x2 : (lessF c.2 a.2).1 * g = (sc.2 - sa.2) * (c.2.2 * a.2.2) := by unfold lessF Sc at *; grind
    have x3 : (lessF b.2 a.2).1 * g = (sb.2 - sa.2) * (b.2.2 * a.2.2) := by unfold lessF Sc at *; grind
    have x4 : (lessF c.1 a.1).1 * g = (sc.1 - sa.1) * (c.1.2 * a.1.2) := by unfold lessF Sc at *; grind
    have y1 : (lessF b.2 a.2).2 = b.2.2 * a.2.2 := rfl
    have y2 : (lessF c.1 a.1).2 = c.1.2 * a.1.2 := rfl
    have y3 : (lessF b.1 a.1).2 = b.1.2 * a.1.2 := rfl
    have y4 : (lessF c.2 a.2).2 = c.2.2 * a.2.2 := rfl
    rw [y1, y2, y3, y4]
    generalize (lessF b.1 a.1).1 = l1 at *
    generalize (lessF c.2 a.2).1 = l2 at *
    generalize (lessF b.2 a.2).1 = l3 at *
    generalize (lessF c.1 a.1).1 = l4 at *
    have e : (l1 * l2 * (b.2.2 * a.2.2) * (c.1.2 * a.1.2) - l3 * l4 * (b.1.2 * a.1.2) * (c.2.2 * a.2.2)) * (g * g) = (l1 * g) * (l2 * g) * ((b.2.2 * a.2.2) * (c.1.2 * a.1.2)) - (l3 * g) * (l4 * g) * ((b.1.2 * a.1.2) * (c.2.2 * a.2.2)) := by grind
    rw [e, x1, x2, x3, x4]
    unfold ar
    generalize b.1.2 * a.1.2 = m1
    generalize c.2.2 * a.2.2 = m2
    generalize b.2.2 * a.2.2 = m3
    generalize c.1.2 * a.1.2 = m4
    grind
end
instance {x y z : Int} : Decidable (Btw x y z) := by unfold Btw; infer_instance
instance {x y z w : Int} : Decidable (Ovl x y z w) := by unfold Ovl; infer_instance
instance {a b c : Int × Int} : Decidable (Lies a b c) := by unfold Lies; infer_instance
instance {a b c d : Int × Int} : Decidable (MeetP a b c d) := by unfold MeetP; infer_instance
instance {a b c d : Int × Int} : Decidable (TouchP a b c d) := by unfold TouchP; infer_instance
/-- the program's touch is the pieces' meeting, of the places stretched to whole points -/
theorem tch_meet {g : Int} {a b c d : Pl} {sa sb sc sd : Int × Int} (hg : 0 < g) (ha : GoodP a) (hb : GoodP b) (hc : GoodP c) (hd : GoodP d) (xa : ScP g a sa) (xb : ScP g b sb) (xc : ScP g c sc) (xd : ScP g d sd) : tch a b c d = decide (MeetP sa sb sc sd) := by
  have e1 := ovl_iff hg ha.x.pos hb.x.pos hc.x.pos hd.x.pos xa.1 xb.1 xc.1 xd.1
  have e2 := ovl_iff hg ha.y.pos hb.y.pos hc.y.pos hd.y.pos xa.2 xb.2 xc.2 xd.2
  rw [Bool.eq_iff_iff, decide_eq_true_iff, ← touch_iff]
  unfold tch TouchP
  rw [psd_eq hg ha hb hc xa xb xc, psd_eq hg ha hb hd xa xb xd, psd_eq hg hc hd ha xc xd xa, psd_eq hg hc hd hb xc xd xb]
  simp only [Bool.and_eq_true, Bool.not_eq_true', decide_eq_false_iff_not, decide_eq_true_iff, e1, e2]
  have n1 := sgn_mul_pos (ar sa sb sc) (ar sa sb sd)
  have n2 := sgn_mul_pos (ar sc sd sa) (ar sc sd sb)
  constructor
  · rintro ⟨h1, h2, h3, h4⟩
    exact ⟨h1, h2, by omega, by omega⟩
  · rintro ⟨h1, h2, h3, h4⟩
    exact ⟨h1, h2, by omega, by omega⟩
end Fr2
namespace Fr2
open Z Tch
structure Mp where
  a : Int
  b : Int
  c : Int
  d : Int
  e : Int
  f : Int
def Mp.at (m : Mp) (g : Int) (p : Int × Int) : Int × Int := (m.a * p.1 + m.b * p.2 + m.e * g, m.c * p.1 + m.d * p.2 + m.f * g)
/-- some scale for four places -/
theorem ex_scale {a b c d : Pl} (ha : GoodP a) (hb : GoodP b) (hc : GoodP c) (hd : GoodP d) : ∃ (g : Int) (sa sb sc sd : Int × Int), 0 < g ∧ ScP g a sa ∧ ScP g b sb ∧ ScP g c sc ∧ ScP g d sd := by
  have a1 := ha.x.pos; have a2 := ha.y.pos; have b1 := hb.x.pos; have b2 := hb.y.pos
  have c1 := hc.x.pos; have c2 := hc.y.pos; have d1 := hd.x.pos; have d2 := hd.y.pos
  refine ⟨(a.1.2 * a.2.2) * (b.1.2 * b.2.2) * ((c.1.2 * c.2.2) * (d.1.2 * d.2.2)),
    (a.1.1 * a.2.2 * (b.1.2 * b.2.2) * ((c.1.2 * c.2.2) * (d.1.2 * d.2.2)), a.2.1 * a.1.2 * (b.1.2 * b.2.2) * ((c.1.2 * c.2.2) * (d.1.2 * d.2.2))),
    (b.1.1 * b.2.2 * (a.1.2 * a.2.2) * ((c.1.2 * c.2.2) * (d.1.2 * d.2.2)), b.2.1 * b.1.2 * (a.1.2 * a.2.2) * ((c.1.2 * c.2.2) * (d.1.2 * d.2.2))),
    (c.1.1 * c.2.2 * (d.1.2 * d.2.2) * ((a.1.2 * a.2.2) * (b.1.2 * b.2.2)), c.2.1 * c.1.2 * (d.1.2 * d.2.2) * ((a.1.2 * a.2.2) * (b.1.2 * b.2.2))),
    (d.1.1 * d.2.2 * (c.1.2 * c.2.2) * ((a.1.2 * a.2.2) * (b.1.2 * b.2.2)), d.2.1 * d.1.2 * (c.1.2 * c.2.2) * ((a.1.2 * a.2.2) * (b.1.2 * b.2.2))), ?_, ⟨?_, ?_⟩, ⟨?_, ?_⟩, ⟨?_, ?_⟩, ⟨?_, ?_⟩⟩
  · exact Int.mul_pos (Int.mul_pos (Int.mul_pos a1 a2) (Int.mul_pos b1 b2)) (Int.mul_pos (Int.mul_pos c1 c2) (Int.mul_pos d1 d2))
  all_goals (clear a1 a2 b1 b2 c1 c2 d1 d2; unfold Sc; simp only [Int.mul_assoc, Int.mul_comm, Int.mul_left_comm])
theorem sgn_neg (n : Int) : sgn (-n) = - sgn n := by
  unfold sgn
  by_cases h1 : 0 < n <;> by_cases h2 : n < 0 <;> simp [h1, h2] <;> omega
end Fr2
namespace Fr2
open Z Tch
def hmX (p : Pl) : Int := p.1.1 * p.2.2
def hmY (p : Pl) : Int := p.2.1 * p.1.2
def hmW (p : Pl) : Int := p.1.2 * p.2.2
def spinV (a b c : Pl) : Int := hmX a * (hmY b * hmW c - hmY c * hmW b) - hmY a * (hmX b * hmW c - hmX c * hmW b) + hmW a * (hmX b * hmY c - hmX c * hmY b)
def withinH (a b c : Pl) : Bool := decide (Btw (hmX a * hmW b * hmW c) (hmX b * hmW a * hmW c) (hmX c * hmW a * hmW b)) && decide (Btw (hmY a * hmW b * hmW c) (hmY b * hmW a * hmW c) (hmY c * hmW a * hmW b))
def lieH (a b c : Pl) : Bool := decide (psd a b c = 0) && withinH a b c
def touchH (a b c d : Pl) : Bool := (decide (psd a b c * psd a b d < 0) && decide (psd c d a * psd c d b < 0)) || (lieH a b c || (lieH a b d || (lieH c d a || lieH c d b)))
theorem hm_w {p : Pl} (h : GoodP p) : 0 < hmW p := Int.mul_pos h.x.pos h.y.pos
theorem hm_sc {g : Int} {p : Pl} {s : Int × Int} (h : ScP g p s) : hmX p * g = s.1 * hmW p ∧ hmY p * g = s.2 * hmW p := by
  obtain ⟨h1, h2⟩ := h
  unfold Sc at h1 h2
  unfold hmX hmY hmW
  constructor
  · calc p.1.1 * p.2.2 * g = (p.1.1 * g) * p.2.2 := by grind
      _ = (s.1 * p.1.2) * p.2.2 := by rw [h1]
      _ = _ := by grind
  · calc p.2.1 * p.1.2 * g = (p.2.1 * g) * p.1.2 := by grind
      _ = (s.2 * p.2.2) * p.1.2 := by rw [h2]
      _ = _ := by grind
theorem det_id {x1 y1 w1 x2 y2 w2 x3 y3 w3 g a1 b1 a2 b2 a3 b3 : Int} (e1 : x1 * g = a1 * w1) (e2 : y1 * g = b1 * w1) (e3 : x2 * g = a2 * w2) (e4 : y2 * g = b2 * w2) (e5 : x3 * g = a3 * w3) (e6 : y3 * g = b3 * w3) :
    (x1 * (y2 * w3 - y3 * w2) - y1 * (x2 * w3 - x3 * w2) + w1 * (x2 * y3 - x3 * y2)) * (g * g) = ((a2 - a1) * (b3 - b1) - (b2 - b1) * (a3 - a1)) * (w1 * (w2 * w3)) := by
  have h : (x1 * (y2 * w3 - y3 * w2) - y1 * (x2 * w3 - x3 * w2) + w1 * (x2 * y3 - x3 * y2)) * (g * g) = (x1 * g) * ((y2 * g) * w3 - (y3 * g) * w2) - (y1 * g) * ((x2 * g) * w3 - (x3 * g) * w2) + w1 * ((x2 * g) * (y3 * g) - (x3 * g) * (y2 * g)) := by grind
  rw [h, e1, e2, e3, e4, e5, e6]
  grind
theorem ex_scale3 {a b c : Pl} (ha : GoodP a) (hb : GoodP b) (hc : GoodP c) : ∃ (g : Int) (sa sb sc : Int × Int), 0 < g ∧ ScP g a sa ∧ ScP g b sb ∧ ScP g c sc := by
  obtain ⟨g, sa, sb, sc, _, h0, h1, h2, h3, _⟩ := ex_scale ha hb hc hc
  exact ⟨g, sa, sb, sc, h0, h1, h2, h3⟩
theorem spin_sgn {a b c : Pl} (ha : GoodP a) (hb : GoodP b) (hc : GoodP c) : sgn (spinV a b c) = psd a b c := by
  obtain ⟨g, sa, sb, sc, hg, xa, xb, xc⟩ := ex_scale3 ha hb hc
  rw [psd_eq hg ha hb hc xa xb xc]
  obtain ⟨a1, a2⟩ := hm_sc xa
  obtain ⟨b1, b2⟩ := hm_sc xb
  obtain ⟨c1, c2⟩ := hm_sc xc
  refine sgn_scale (u := g * g) (v := hmW a * (hmW b * hmW c)) (Int.mul_pos hg hg) (Int.mul_pos (hm_w ha) (Int.mul_pos (hm_w hb) (hm_w hc))) ?_
  unfold spinV ar
  exact det_id a1 a2 b1 b2 c1 c2
theorem le_scale2 {x y x' y' g k : Int} (hg : 0 < g) (hk : 0 < k) (e1 : x * g = x' * k) (e2 : y * g = y' * k) : x ≤ y ↔ x' ≤ y' := by
  constructor
  · intro h
    have := Int.mul_le_mul_of_nonneg_right h (Int.le_of_lt hg)
    rw [e1, e2] at this
    exact Int.le_of_mul_le_mul_right this hk
  · intro h
    have := Int.mul_le_mul_of_nonneg_right h (Int.le_of_lt hk)
    rw [← e1, ← e2] at this
    exact Int.le_of_mul_le_mul_right this hg
theorem btw_scale2 {x y z x' y' z' g k : Int} (hg : 0 < g) (hk : 0 < k) (e1 : x * g = x' * k) (e2 : y * g = y' * k) (e3 : z * g = z' * k) : Btw x y z ↔ Btw x' y' z' := by
  unfold Btw
  rw [le_scale2 hg hk e1 e3, le_scale2 hg hk e3 e2, le_scale2 hg hk e2 e3, le_scale2 hg hk e3 e1]
theorem within_iff {g : Int} {a b c : Pl} {sa sb sc : Int × Int} (hg : 0 < g) (ha : GoodP a) (hb : GoodP b) (hc : GoodP c) (xa : ScP g a sa) (xb : ScP g b sb) (xc : ScP g c sc) : withinH a b c = true ↔ (Btw sa.1 sb.1 sc.1 ∧ Btw sa.2 sb.2 sc.2) := by
  obtain ⟨a1, a2⟩ := hm_sc xa
  obtain ⟨b1, b2⟩ := hm_sc xb
  obtain ⟨c1, c2⟩ := hm_sc xc
  have wa := hm_w ha
  have wb := hm_w hb
  have wc := hm_w hc
  have hk : 0 < hmW a * (hmW b * hmW c) := Int.mul_pos wa (Int.mul_pos wb wc)
  unfold withinH
  rw [Bool.and_eq_true, decide_eq_true_iff, decide_eq_true_iff]
  have cr : ∀ {x s u v w : Int}, x * g = s * u → x * v * w * g = s * (u * (v * w)) := fun {x s u v w} h => by
    calc x * v * w * g = (x * g) * (v * w) := by grind
      _ = (s * u) * (v * w) := by rw [h]
      _ = _ := by grind
  have r2 : ∀ {s u v w : Int}, s * (v * (u * w)) = s * (u * (v * w)) := fun {s u v w} => by grind
  have r3 : ∀ {s u v w : Int}, s * (w * (u * v)) = s * (u * (v * w)) := fun {s u v w} => by grind
  rw [btw_scale2 hg hk (cr a1) ((cr b1).trans r2) ((cr c1).trans r3), btw_scale2 hg hk (cr a2) ((cr b2).trans r2) ((cr c2).trans r3)]
theorem lie_iff {g : Int} {a b c : Pl} {sa sb sc : Int × Int} (hg : 0 < g) (ha : GoodP a) (hb : GoodP b) (hc : GoodP c) (xa : ScP g a sa) (xb : ScP g b sb) (xc : ScP g c sc) : lieH a b c = true ↔ Lies sa sb sc := by
  unfold lieH Lies
  rw [Bool.and_eq_true, decide_eq_true_iff, within_iff hg ha hb hc xa xb xc, psd_eq hg ha hb hc xa xb xc, sgn_zero]
  exact ⟨fun h => ⟨h.2.1, h.2.2, h.1⟩, fun h => ⟨h.2.2, h.1, h.2.1⟩⟩
theorem touchH_eq {a b c d : Pl} (ha : GoodP a) (hb : GoodP b) (hc : GoodP c) (hd : GoodP d) : touchH a b c d = tch a b c d := by
  obtain ⟨g, sa, sb, sc, sd, hg, xa, xb, xc, xd⟩ := ex_scale ha hb hc hd
  rw [tch_meet hg ha hb hc hd xa xb xc xd, Bool.eq_iff_iff, decide_eq_true_iff]
  unfold touchH MeetP
  rw [Bool.or_eq_true, Bool.or_eq_true, Bool.or_eq_true, Bool.or_eq_true, Bool.and_eq_true, decide_eq_true_iff, decide_eq_true_iff, lie_iff hg ha hb hc xa xb xc, lie_iff hg ha hb hd xa xb xd, lie_iff hg hc hd ha xc xd xa, lie_iff hg hc hd hb xc xd xb,
    psd_eq hg ha hb hc xa xb xc, psd_eq hg ha hb hd xa xb xd, psd_eq hg hc hd ha xc xd xa, psd_eq hg hc hd hb xc xd xb, sgn_mul_neg, sgn_mul_neg]
  constructor
  · rintro (h | h | h | h | h)
    · exact .inr (.inr (.inr (.inr h)))
    · exact .inl h
    · exact .inr (.inl h)
    · exact .inr (.inr (.inl h))
    · exact .inr (.inr (.inr (.inl h)))
  · rintro (h | h | h | h | h)
    · exact .inr (.inl h)
    · exact .inr (.inr (.inl h))
    · exact .inr (.inr (.inr (.inl h)))
    · exact .inr (.inr (.inr (.inr h)))
    · exact .inl h
abbrev Ln := List Pl
abbrev encL (l : Ln) : D := .tup (l.map encP)
def pcs : Ln → List (Pl × Pl)
  | a :: b :: l => (a, b) :: pcs (b :: l)
  | _ => []
abbrev encC (q : Pl × Pl) : D := .tup [encP q.1, encP q.2]
theorem pcs_zip : ∀ l : Ln, zipD (l.map encP) ((l.map encP).drop 1) = (pcs l).map encC
  | [] => by simp [zipD, pcs]
  | [a] => by simp [zipD, pcs]
  | a :: b :: l => by
    have ih := pcs_zip (b :: l)
    simp only [List.map_cons, List.drop_succ_cons, List.drop_zero] at ih ⊢
    unfold zipD pcs
    rw [List.map_cons]
    congr 1
theorem pcs_get : ∀ {l : Ln} {k : Nat} {q : Pl × Pl}, (pcs l)[k]? = some q ↔ l[k]? = some q.1 ∧ l[k + 1]? = some q.2
  | [], k, q => by simp [pcs]
  | [a], k, q => by simp [pcs]
  | a :: b :: l, 0, q => by
    unfold pcs
    simp only [List.getElem?_cons_zero, List.getElem?_cons_succ, Option.some.injEq]
    exact ⟨fun h => by subst h; exact ⟨rfl, rfl⟩, fun h => Prod.ext h.1 h.2⟩
  | a :: b :: l, k + 1, q => by
    have ih := pcs_get (l := b :: l) (k := k) (q := q)
    unfold pcs
    simpa using ih
theorem pcs_len : ∀ l : Ln, (pcs l).length = l.length - 1
  | [] => rfl
  | [a] => rfl
  | a :: b :: l => by
    have ih := pcs_len (b :: l)
    unfold pcs
    simp only [List.length_cons] at ih ⊢
    omega
theorem pcs_mem {l : Ln} {q : Pl × Pl} (h : q ∈ pcs l) : q.1 ∈ l ∧ q.2 ∈ l := by
  obtain ⟨k, hk⟩ := List.mem_iff_getElem?.mp h
  obtain ⟨h1, h2⟩ := pcs_get.mp hk
  exact ⟨List.mem_of_getElem? h1, List.mem_of_getElem? h2⟩
def lmeet (l m : Ln) : Bool := (pcs l).any fun p => (pcs m).any fun q => tch p.1 p.2 q.1 q.2
/-- the pairs of lines of which the first is the i-th -/
def row (ls : List Ln) (f : Ln → Ln → Bool) (i : Nat) : List D := (((List.range (ls.length - (i + 1))).map fun k => i + 1 + k).filter fun j => f (ls.getD i []) (ls.getD j [])).map fun (j : Nat) => pt (i : Int) (j : Int)
def rows (ls : List Ln) (f : Ln → Ln → Bool) (k : Nat) : List D := (List.range k).flatMap (row ls f)
theorem rows_succ (ls : List Ln) (f : Ln → Ln → Bool) (k : Nat) : rows ls f (k + 1) = rows ls f k ++ row ls f k := by
  unfold rows
  rw [List.range_succ, List.flatMap_append]
  simp
theorem row_len (ls : List Ln) (f : Ln → Ln → Bool) (i : Nat) : (row ls f i).length ≤ ls.length := by
  unfold row
  rw [List.length_map]
  refine Nat.le_trans (List.length_filter_le _ _) ?_
  rw [List.length_map, List.length_range]
  omega
theorem rows_len (ls : List Ln) (f : Ln → Ln → Bool) : ∀ k, (rows ls f k).length ≤ k * ls.length
  | 0 => by unfold rows; simp
  | k + 1 => by
    rw [rows_succ, List.length_append, Nat.succ_mul]
    have := rows_len ls f k
    have := row_len ls f k
    omega
theorem rows_ok (ls : List Ln) (f : Ln → Ln → Bool) (k : Nat) : ∀ x ∈ rows ls f k, ∃ i j : Int, x = pt i j := by
  intro x hx
  unfold rows at hx
  obtain ⟨i, _, hi⟩ := List.mem_flatMap.mp hx
  unfold row at hi
  obtain ⟨j, _, rfl⟩ := List.mem_map.mp hi
  exact ⟨_, _, rfl⟩
theorem rows_okn (ls : List Ln) (f : Ln → Ln → Bool) (k : Nat) : OkN 2 (.tup (rows ls f k)) := okn_tup fun x hx => by
  obtain ⟨i, j, rfl⟩ := rows_ok ls f k x hx
  exact okn_pt
end Fr2
namespace Swp
/-- an event: x, word (0 a start, 1 an end), number of line, number of piece -/
abbrev Ev := Int × Int × Nat × Nat
abbrev Id2 := Nat × Nat
def evLt (a b : Ev) : Prop := a.1 < b.1 ∨ (a.1 = b.1 ∧ (a.2.1 < b.2.1 ∨ (a.2.1 = b.2.1 ∧ (a.2.2.1 < b.2.2.1 ∨ (a.2.2.1 = b.2.2.1 ∧ a.2.2.2 < b.2.2.2)))))
theorem evLt_irr (a : Ev) : ¬ evLt a a := by unfold evLt; omega
theorem evLt_tr {a b c : Ev} (h : evLt a b) (k : evLt b c) : evLt a c := by unfold evLt at *; omega
def stE (lo : Id2 → Int) (p : Id2) : Ev := (lo p, 0, p.1, p.2)
def enE (hi : Id2 → Int) (p : Id2) : Ev := (hi p, 1, p.1, p.2)
/-- those under way behind the first k events -/
def underK (hi : Id2 → Int) (E : List Ev) (k : Nat) : List Id2 := ((E.take k).filter fun e => decide (e.2.1 = 0) && !decide (enE hi e.2.2 ∈ E.take k)).map fun e => e.2.2
theorem mem_under {lo hi : Id2 → Int} {E : List Ev} {S : List Id2} (hE : ∀ e, e ∈ E ↔ ∃ p ∈ S, e = stE lo p ∨ e = enE hi p) {k : Nat} {p : Id2} : p ∈ underK hi E k ↔ p ∈ S ∧ stE lo p ∈ E.take k ∧ enE hi p ∉ E.take k := by
  unfold underK
  rw [List.mem_map]
  constructor
  · rintro ⟨e, he, rfl⟩
    obtain ⟨h1, h2⟩ := List.mem_filter.mp he
    rw [Bool.and_eq_true, decide_eq_true_eq, Bool.not_eq_true', decide_eq_false_iff_not] at h2
    obtain ⟨q, hq, z | z⟩ := (hE e).mp (List.mem_of_mem_take h1)
    · subst z
      exact ⟨hq, h1, h2.2⟩
    · subst z
      exact absurd h2.1 (by show ¬ (1 : Int) = 0; decide)
  · rintro ⟨hp, h1, h2⟩
    exact ⟨stE lo p, List.mem_filter.mpr ⟨h1, by rw [Bool.and_eq_true, decide_eq_true_eq, Bool.not_eq_true', decide_eq_false_iff_not]; exact ⟨rfl, h2⟩⟩, rfl⟩
/-- of two pieces over a like x the one is under way where the other one starts -/
theorem under_way {lo hi : Id2 → Int} {E : List Ev} {S : List Id2} (hE : ∀ e, e ∈ E ↔ ∃ p ∈ S, e = stE lo p ∨ e = enE hi p) (hs : E.Pairwise evLt) {p q : Id2} (hp : p ∈ S) (hq : q ∈ S) (ne : p ≠ q) (h1 : lo p ≤ hi q) (h2 : lo q ≤ hi p) :
    ∃ k, (E[k]? = some (stE lo q) ∧ p ∈ underK hi E k) ∨ (E[k]? = some (stE lo p) ∧ q ∈ underK hi E k) := by
  obtain ⟨i, hi', ei⟩ := List.getElem_of_mem ((hE _).mpr ⟨p, hp, .inl rfl⟩)
  obtain ⟨j, hj', ej⟩ := List.getElem_of_mem ((hE _).mpr ⟨q, hq, .inl rfl⟩)
  have later : ∀ {a b : Id2} {m : Nat}, lo b ≤ hi a → (hm : m < E.length) → E[m] = stE lo b → enE hi a ∉ E.take m := fun {a b m} hab hm em hin => by
    obtain ⟨n, hn, en⟩ := List.getElem_of_mem hin
    rw [List.length_take] at hn
    rw [List.getElem_take] at en
    have := List.pairwise_iff_getElem.mp hs n m (by omega) hm (by omega)
    rw [en, em] at this
    unfold evLt enE stE at this
    dsimp only at this
    omega
  have tk : ∀ {n m : Nat} (hn : n < E.length), n < m → E[n] ∈ E.take m := fun {n m} hn h => List.mem_iff_getElem.mpr ⟨n, by rw [List.length_take]; omega, by rw [List.getElem_take]⟩
  have nij : i ≠ j := by
    rintro rfl
    rw [ei] at ej
    unfold stE at ej
    simp only [Prod.mk.injEq] at ej
    exact ne (Prod.ext ej.2.2.1 ej.2.2.2)
  rcases Nat.lt_or_gt_of_ne nij with z | z
  · exact ⟨j, .inl ⟨by rw [List.getElem?_eq_getElem hj', ej], (mem_under hE).mpr ⟨hp, by rw [← ei]; exact tk hi' z, later h2 hj' ej⟩⟩⟩
  · exact ⟨i, .inr ⟨by rw [List.getElem?_eq_getElem hi', ei], (mem_under hE).mpr ⟨hq, by rw [← ej]; exact tk hj' z, later h1 hi' ei⟩⟩⟩
theorem take_succ_get {α : Type} {E : List α} {k : Nat} {e : α} (h : E[k]? = some e) : E.take (k + 1) = E.take k ++ [e] := by
  rw [List.take_add_one, h]
  rfl
theorem not_before {E : List Ev} (hs : E.Pairwise evLt) {k : Nat} {e : Ev} (h : E[k]? = some e) {e' : Ev} (hin : e' ∈ E.take k) : evLt e' e := by
  obtain ⟨hk, ek⟩ := List.getElem?_eq_some_iff.mp h
  obtain ⟨n, hn, en⟩ := List.getElem_of_mem hin
  rw [List.length_take] at hn
  rw [List.getElem_take] at en
  have := List.pairwise_iff_getElem.mp hs n k (by omega) hk (by omega)
  rw [en, ek] at this
  exact this
/-- a start: one more is under way -/
theorem under_start {lo hi : Id2 → Int} {E : List Ev} (hs : E.Pairwise evLt) {k : Nat} {q : Id2} (hq : lo q ≤ hi q) (h : E[k]? = some (stE lo q)) : underK hi E (k + 1) = underK hi E k ++ [q] := by
  unfold underK
  rw [take_succ_get h, List.filter_append, List.map_append]
  have e1 : ∀ e : Ev, decide (enE hi e.2.2 ∈ E.take k ++ [stE lo q]) = decide (enE hi e.2.2 ∈ E.take k) := fun e => by
    refine decide_eq_decide.mpr ?_
    rw [List.mem_append, List.mem_singleton]
    refine ⟨fun z => z.resolve_right fun z => ?_, .inl⟩
    unfold enE stE at z
    simp only [Prod.mk.injEq] at z
    exact absurd z.2.1 (by decide)
  simp only [e1]
  have e2 : enE hi q ∉ E.take k := fun z => by
    have := not_before hs h z
    unfold evLt enE stE at this
    dsimp only at this
    omega
  congr 1
  rw [List.filter_cons, if_pos (by
    show (decide (((0 : Int)) = 0) && !decide (enE hi q ∈ E.take k)) = true
    rw [decide_eq_false e2]
    rfl), List.filter_nil]
  rfl
/-- an end: one less -/
theorem under_end {hi : Id2 → Int} {E : List Ev} {k : Nat} {q : Id2} (h : E[k]? = some (enE hi q)) : underK hi E (k + 1) = (underK hi E k).filter fun p => decide (p ≠ q) := by
  unfold underK
  rw [take_succ_get h, List.filter_append, List.map_append, List.filter_map, List.filter_filter]
  have e0 : ([enE hi q].filter fun e => decide (e.2.1 = 0) && !decide (enE hi e.2.2 ∈ E.take k ++ [enE hi q])) = [] := by
    rw [List.filter_cons, if_neg (by
      show ¬ (decide ((1 : Int) = 0) && _) = true
      rw [decide_eq_false (by decide), Bool.false_and]
      exact Bool.false_ne_true), List.filter_nil]
  rw [e0, List.map_nil, List.append_nil]
  congr 1
  refine List.filter_congr fun e _ => ?_
  rw [Bool.eq_iff_iff]
  simp only [Function.comp_apply, Bool.and_eq_true, decide_eq_true_eq, Bool.not_eq_true', decide_eq_false_iff_not, List.mem_append, List.mem_singleton, not_or]
  have e3 : enE hi e.2.2 = enE hi q ↔ e.2.2 = q := by
    constructor
    · intro z
      unfold enE at z
      simp only [Prod.mk.injEq] at z
      exact Prod.ext z.2.2.1 z.2.2.2
    · intro z
      rw [z]
  rw [e3]
  constructor
  · rintro ⟨a, b, c⟩
    exact ⟨c, a, b⟩
  · rintro ⟨c, a, b⟩
    exact ⟨a, b, c⟩
/-- the pair of two lines -/
def prOf (p q : Id2) : Nat × Nat := (min p.1 q.1, max p.1 q.1)
/-- what is found of the pairs at the k-th event -/
def FoundAt (lo hi : Id2 → Int) (T : Id2 → Id2 → Bool) (E : List Ev) (k : Nat) (pr : Nat × Nat) : Prop := ∃ j q p, j < k ∧ E[j]? = some (stE lo q) ∧ p ∈ underK hi E j ∧ p.1 ≠ q.1 ∧ T q p = true ∧ pr = prOf q p
theorem found_all {lo hi : Id2 → Int} {T : Id2 → Id2 → Bool} {E : List Ev} {S : List Id2} (hE : ∀ e, e ∈ E ↔ ∃ p ∈ S, e = stE lo p ∨ e = enE hi p) (hs : E.Pairwise evLt)
    (sym : ∀ p ∈ S, ∀ q ∈ S, T p q = T q p) (ov : ∀ p ∈ S, ∀ q ∈ S, T p q = true → lo p ≤ hi q) (pr : Nat × Nat) :
    FoundAt lo hi T E E.length pr ↔ ∃ p ∈ S, ∃ q ∈ S, p.1 < q.1 ∧ T p q = true ∧ pr = (p.1, q.1) := by
  constructor
  · rintro ⟨j, q, p, hj, hq, hp, ne, t, rfl⟩
    obtain ⟨hpS, _, _⟩ := (mem_under hE).mp hp
    have hqS : q ∈ S := by
      obtain ⟨r, hr, z | z⟩ := (hE _).mp (List.mem_of_getElem? hq)
      · unfold stE at z
        simp only [Prod.mk.injEq] at z
        rw [show q = r from Prod.ext z.2.2.1 z.2.2.2]
        exact hr
      · unfold stE enE at z
        simp only [Prod.mk.injEq] at z
        exact absurd z.2.1 (by decide)
    unfold prOf
    rcases Nat.lt_or_gt_of_ne ne with z | z
    · exact ⟨p, hpS, q, hqS, z, by rw [sym p hpS q hqS]; exact t, by rw [Nat.min_eq_right (by omega), Nat.max_eq_left (by omega)]⟩
    · exact ⟨q, hqS, p, hpS, z, t, by rw [Nat.min_eq_left (by omega), Nat.max_eq_right (by omega)]⟩
  · rintro ⟨p, hp, q, hq, hlt, t, rfl⟩
    have ne : p ≠ q := fun e => by rw [e] at hlt; exact Nat.lt_irrefl _ hlt
    obtain ⟨k, ⟨h1, h2⟩ | ⟨h1, h2⟩⟩ := under_way hE hs hp hq ne (ov p hp q hq t) (ov q hq p hp (by rw [sym q hq p hp]; exact t))
    · exact ⟨k, q, p, (List.getElem?_eq_some_iff.mp h1).1, h1, h2, by omega, by rw [sym q hq p hp]; exact t, by unfold prOf; rw [Nat.min_eq_right (by omega), Nat.max_eq_left (by omega)]⟩
    · exact ⟨k, p, q, (List.getElem?_eq_some_iff.mp h1).1, h1, h2, by omega, t, by unfold prOf; rw [Nat.min_eq_left (by omega), Nat.max_eq_right (by omega)]⟩
/-- one more bottom -/
def msF (m b : Int) : Int := m * ((if b < 0 then -b else b) / (Nat.gcd m.natAbs b.natAbs : Nat))
theorem msF_nat (m b : Nat) (hm : 0 < m) : msF m b = ((Nat.lcm m b : Nat) : Int) := by
  unfold msF
  rw [if_neg (by omega), Int.natAbs_natCast, Int.natAbs_natCast, ← Int.natCast_ediv, ← Int.natCast_mul]
  congr 1
  unfold Nat.lcm
  rw [Nat.mul_div_assoc _ (Nat.gcd_dvd_right m b)]
/-- the pairs of numbers, rising -/
def rN (n : Nat) (F : Nat → Nat → Bool) : List (Nat × Nat) := (List.range n).flatMap fun i => ((((List.range (n - (i + 1))).map fun k => i + 1 + k).filter fun j => F i j).map fun j => (i, j))
theorem mem_rN {n : Nat} {F : Nat → Nat → Bool} {i j : Nat} : (i, j) ∈ rN n F ↔ i < j ∧ j < n ∧ F i j = true := by
  unfold rN
  simp only [List.mem_flatMap, List.mem_range, List.mem_map, List.mem_filter, Prod.mk.injEq]
  constructor
  · rintro ⟨a, ha, b, ⟨⟨k, hk, rfl⟩, hF⟩, rfl, rfl⟩
    exact ⟨by omega, by omega, hF⟩
  · rintro ⟨h1, h2, h3⟩
    exact ⟨i, by omega, j, ⟨⟨j - (i + 1), by omega, by omega⟩, h3⟩, rfl, rfl⟩
def lt2 (a b : Nat × Nat) : Prop := a.1 < b.1 ∨ (a.1 = b.1 ∧ a.2 < b.2)
theorem rN_rise (n : Nat) (F : Nat → Nat → Bool) : (rN n F).Pairwise lt2 := by
  unfold rN
  rw [List.pairwise_flatMap]
  refine ⟨fun i hi => ?_, ?_⟩
  · rw [List.pairwise_map]
    refine List.Pairwise.filter _ ?_
    rw [List.pairwise_map]
    exact List.pairwise_lt_range.imp fun h => .inr ⟨rfl, by dsimp only; omega⟩
  · refine List.pairwise_lt_range.imp fun h x hx y hy => ?_
    obtain ⟨_, _, rfl⟩ := List.mem_map.mp hx
    obtain ⟨_, _, rfl⟩ := List.mem_map.mp hy
    exact .inl h
theorem rise_eq : ∀ {l m : List (Nat × Nat)}, l.Pairwise lt2 → m.Pairwise lt2 → (∀ x, x ∈ l ↔ x ∈ m) → l = m
  | [], [], _, _, _ => rfl
  | [], y :: m, _, _, h => by cases (h y).mpr List.mem_cons_self
  | x :: l, [], _, _, h => by cases (h x).mp List.mem_cons_self
  | x :: l, y :: m, hl, hm, h => by
    have irr : ∀ a b : Nat × Nat, lt2 a b → lt2 b a → False := fun a b p q => by unfold lt2 at p q; omega
    rw [List.pairwise_cons] at hl hm
    have e : x = y := by
      rcases List.mem_cons.mp ((h x).mp List.mem_cons_self) with z | z
      · exact z
      · rcases List.mem_cons.mp ((h y).mpr List.mem_cons_self) with w | w
        · exact w.symm
        · exact (irr _ _ (hm.1 x z) (hl.1 y w)).elim
    subst e
    have ii : ∀ a, ¬ lt2 a a := fun a p => irr _ _ p p
    rw [rise_eq hl.2 hm.2 fun z => ⟨fun hz => (List.mem_cons.mp ((h z).mp (List.mem_cons_of_mem _ hz))).resolve_left fun k => ii x (by have := hl.1 z hz; rw [k] at this; exact this), fun hz => (List.mem_cons.mp ((h z).mpr (List.mem_cons_of_mem _ hz))).resolve_left fun k => ii x (by have := hm.1 z hz; rw [k] at this; exact this)⟩]
open Z Tch Fr2
theorem tch_sym {a b c d : Pl} (ha : GoodP a) (hb : GoodP b) (hc : GoodP c) (hd : GoodP d) : tch a b c d = tch c d a b := by
  obtain ⟨g, sa, sb, sc, sd, hg, xa, xb, xc, xd⟩ := ex_scale ha hb hc hd
  rw [tch_meet hg ha hb hc hd xa xb xc xd, tch_meet hg hc hd ha hb xc xd xa xb]
  refine decide_eq_decide.mpr ?_
  rw [← touch_iff, ← touch_iff]
  exact ⟨touch_sw, touch_sw⟩
theorem tch_turn {a b c d : Pl} (ha : GoodP a) (hb : GoodP b) (hc : GoodP c) (hd : GoodP d) : tch a b d c = tch a b c d := by
  obtain ⟨g, sa, sb, sc, sd, hg, xa, xb, xc, xd⟩ := ex_scale ha hb hc hd
  rw [tch_meet hg ha hb hc hd xa xb xc xd, tch_meet hg ha hb hd hc xa xb xd xc]
  refine decide_eq_decide.mpr ?_
  rw [← touch_iff, ← touch_iff]
  exact ⟨touch_sw2, touch_sw2⟩
/-- what touches has a like x, at any scale -/
theorem tch_over {g : Int} {a b c d : Pl} {sa sb sc sd : Int} (hg : 0 < g) (ha : GoodP a) (hb : GoodP b) (hc : GoodP c) (hd : GoodP d) (xa : Sc g a.1 sa) (xb : Sc g b.1 sb) (xc : Sc g c.1 sc) (xd : Sc g d.1 sd) (t : tch a b c d = true) : min sa sb ≤ max sc sd := by
  have h : ovl a.1 b.1 c.1 d.1 = true := by
    unfold tch at t
    rw [Bool.and_eq_true] at t
    exact t.1
  have o := (ovl_iff hg ha.x.pos hb.x.pos hc.x.pos hd.x.pos xa xb xc xd).mp h
  unfold Ovl at o
  omega
end Swp
namespace Swp
open Z Tch Fr2
def plc0 : Pl := ((0, 1), (0, 1))
def pcAt (ls : List Ln) (p : Id2) : Pl × Pl := ((pcs (ls.getD p.1 []))[p.2]?).getD (plc0, plc0)
def sx (m : Int) (f : Fq) : Int := f.1 * (m / f.2)
def loP (m : Int) (ls : List Ln) (p : Id2) : Int := min (sx m (pcAt ls p).1.1) (sx m (pcAt ls p).2.1)
def hiP (m : Int) (ls : List Ln) (p : Id2) : Int := max (sx m (pcAt ls p).1.1) (sx m (pcAt ls p).2.1)
def evs (m : Int) (ls : List Ln) (p : Id2) : List Ev := [stE (loP m ls) p, enE (hiP m ls) p]
def rowL (m : Int) (ls : List Ln) (i k : Nat) : List Ev := (List.range k).flatMap fun j => evs m ls (i, j)
def rowsK (m : Int) (ls : List Ln) (k : Nat) : List Ev := (List.range k).flatMap fun i => rowL m ls i (pcs (ls.getD i [])).length
def rowsE (m : Int) (ls : List Ln) : List Ev := rowsK m ls ls.length
theorem rowL_succ (m : Int) (ls : List Ln) (i k : Nat) : rowL m ls i (k + 1) = rowL m ls i k ++ evs m ls (i, k) := by
  unfold rowL
  rw [List.range_succ, List.flatMap_append]
  simp
theorem rowsK_succ (m : Int) (ls : List Ln) (k : Nat) : rowsK m ls (k + 1) = rowsK m ls k ++ rowL m ls k (pcs (ls.getD k [])).length := by
  unfold rowsK
  rw [List.range_succ, List.flatMap_append]
  simp
theorem rowL_len (m : Int) (ls : List Ln) (i : Nat) : ∀ k, (rowL m ls i k).length = 2 * k
  | 0 => rfl
  | k + 1 => by rw [rowL_succ, List.length_append, rowL_len m ls i k]; unfold evs; simp; omega
theorem rowsK_len {m : Int} {ls : List Ln} {c : Nat} (h : ∀ l ∈ ls, l.length ≤ c) : ∀ k, (rowsK m ls k).length ≤ 2 * c * k
  | 0 => Nat.zero_le _
  | k + 1 => by
    have ih := rowsK_len (m := m) h k
    rw [rowsK_succ, List.length_append, rowL_len]
    have : (pcs (ls.getD k [])).length ≤ c := by
      rw [pcs_len]
      by_cases hk : k < ls.length
      · have := h _ (List.getElem_mem hk)
        rw [List.getD_eq_getElem?_getD, List.getElem?_eq_getElem hk, Option.getD_some]
        omega
      · rw [List.getD_eq_getElem?_getD, List.getElem?_eq_none (by omega)]
        simp
    rw [Nat.mul_succ]
    omega
/-- the pieces -/
def allP (ls : List Ln) : List Id2 := (List.range ls.length).flatMap fun i => (List.range (pcs (ls.getD i [])).length).map fun j => (i, j)
theorem mem_allP {ls : List Ln} {p : Id2} : p ∈ allP ls ↔ p.1 < ls.length ∧ p.2 < (pcs (ls.getD p.1 [])).length := by
  unfold allP
  simp only [List.mem_flatMap, List.mem_range, List.mem_map]
  constructor
  · rintro ⟨i, hi, j, hj, rfl⟩
    exact ⟨hi, hj⟩
  · rintro ⟨h1, h2⟩
    exact ⟨p.1, h1, p.2, h2, rfl⟩
theorem mem_rowsE {m : Int} {ls : List Ln} {e : Ev} : e ∈ rowsE m ls ↔ ∃ p ∈ allP ls, e = stE (loP m ls) p ∨ e = enE (hiP m ls) p := by
  unfold rowsE rowsK rowL evs allP
  simp only [List.mem_flatMap, List.mem_range, List.mem_map, List.mem_cons, List.not_mem_nil, or_false]
  constructor
  · rintro ⟨i, hi, j, hj, h⟩
    exact ⟨(i, j), ⟨i, hi, j, hj, rfl⟩, h⟩
  · rintro ⟨p, ⟨i, hi, j, hj, rfl⟩, h⟩
    exact ⟨i, hi, j, hj, h⟩
theorem st_en {lo hi : Id2 → Int} {p q : Id2} : stE lo p ≠ enE hi q := fun z => by
  unfold stE enE at z
  simp only [Prod.mk.injEq] at z
  exact absurd z.2.1 (by decide)
theorem evs_id {m : Int} {ls : List Ln} {p : Id2} {e : Ev} (h : e ∈ evs m ls p) : e.2.2 = p := by
  unfold evs at h
  simp only [List.mem_cons, List.not_mem_nil, or_false] at h
  rcases h with rfl | rfl <;> rfl
theorem rowsE_nodup (m : Int) (ls : List Ln) : (rowsE m ls).Nodup := by
  unfold rowsE rowsK rowL List.Nodup
  rw [List.pairwise_flatMap]
  refine ⟨fun i _ => ?_, List.pairwise_lt_range.imp fun {i i'} h x hx y hy e => ?_⟩
  · rw [List.pairwise_flatMap]
    refine ⟨fun j _ => ?_, List.pairwise_lt_range.imp fun {j j'} h x hx y hy e => ?_⟩
    · unfold evs
      simp only [List.pairwise_cons, List.mem_cons, List.not_mem_nil, or_false, forall_eq, List.Pairwise.nil, and_true]
      exact ⟨st_en, fun _ z => z.elim⟩
    · have h1 := evs_id hx
      have h2 := evs_id hy
      rw [e, h2] at h1
      simp only [Prod.mk.injEq] at h1
      omega
  · obtain ⟨j, _, hx⟩ := List.mem_flatMap.mp hx
    obtain ⟨j', _, hy⟩ := List.mem_flatMap.mp hy
    have h1 := evs_id hx
    have h2 := evs_id hy
    rw [e, h2] at h1
    simp only [Prod.mk.injEq] at h1
    omega
abbrev encEv (e : Ev) : D := .tup [.int e.1, .int e.2.1, .int (e.2.2.1 : Int), .int (e.2.2.2 : Int)]
instance (a b : Ev) : Decidable (evLt a b) := by unfold evLt; infer_instance
theorem lt_t4 (a b c d a' b' c' d' : Int) : PySem.W.dataLt (D.py (.tup [.int a, .int b, .int c, .int d])) (D.py (.tup [.int a', .int b', .int c', .int d'])) = (decide (a < a') || (decide (a = a') && (decide (b < b') || (decide (b = b') && (decide (c < c') || (decide (c = c') && decide (d < d'))))))) := by
  unfold PySem.W.dataLt
  simp only [D.py, D.pys, PySem.W.keyToks, PySem.W.keyToksAll, List.singleton_append, List.cons_append, List.nil_append]
  rw [PyProof.Rows.lex_cons, PyProof.Rows.lex_cons, PyProof.Rows.lex_cons, PyProof.Rows.lex_cons, PyProof.Rows.lex_cons, PyProof.Rows.lex_cons, PyProof.Rows.lex_cons, PyProof.Rows.lex_cons, PyProof.Rows.lex_cons]
  show (decide ((1 : Int) < 1) || (!decide ((1 : Int) < 1) && (decide (a < a') || (!decide (a' < a) && (decide ((1 : Int) < 1) || (!decide ((1 : Int) < 1) && (decide (b < b') || (!decide (b' < b) && (decide ((1 : Int) < 1) || (!decide ((1 : Int) < 1) && (decide (c < c') || (!decide (c' < c) && (decide ((1 : Int) < 1) || (!decide ((1 : Int) < 1) && (decide (d < d') || (!decide (d' < d) && (decide ((0 : Int) < 0) || (!decide ((0 : Int) < 0) && false)))))))))))))))))) = _
  simp only [dsame]
  rw [dstep a, dstep b, dstep c, dstep d]
  simp
theorem lt_ev (a b : Ev) : PySem.W.dataLt (D.py (encEv a)) (D.py (encEv b)) = decide (evLt a b) := by
  rw [lt_t4, Bool.eq_iff_iff]
  simp only [Bool.or_eq_true, Bool.and_eq_true, decide_eq_true_eq]
  unfold evLt
  omega
def leE (a b : Ev) : Bool := !decide (evLt b a)
def sortE (R : List Ev) : List Ev := R.mergeSort leE
theorem srt_ev (R : List Ev) : srtD (R.map encEv) = (sortE R).map encEv := by
  unfold srtD sortE
  rw [List.map_mergeSort (r := leE) (s := PySem.W.dataLe false D.py) (f := encEv) fun a _ b _ => by unfold leE; rw [← lt_ev]; rfl]
theorem sortE_mem {R : List Ev} {e : Ev} : e ∈ sortE R ↔ e ∈ R := (List.mergeSort_perm _ _).mem_iff
theorem evLt_tri (a b : Ev) : evLt a b ∨ a = b ∨ evLt b a := by
  obtain ⟨a1, a2, a3, a4⟩ := a
  obtain ⟨b1, b2, b3, b4⟩ := b
  unfold evLt
  simp only [Prod.mk.injEq]
  omega
theorem sortE_lt {R : List Ev} (h : R.Nodup) : (sortE R).Pairwise evLt := by
  have h1 := List.pairwise_mergeSort (le := leE) (fun a b c h k => by
    unfold leE at *
    simp only [Bool.not_eq_true', decide_eq_false_iff_not] at *
    unfold evLt at *
    omega) (fun a b => by
    unfold leE
    simp only [Bool.or_eq_true, Bool.not_eq_true', decide_eq_false_iff_not]
    unfold evLt
    omega) R
  have h2 : (sortE R).Nodup := (List.mergeSort_perm _ _).nodup_iff.mpr h
  exact (h1.and h2).imp fun {a b} ⟨h1, h2⟩ => by
    unfold leE at h1
    simp only [Bool.not_eq_true', decide_eq_false_iff_not] at h1
    rcases evLt_tri a b with z | z | z
    · exact z
    · exact absurd z h2
    · exact absurd z h1
theorem py_cons (d : D) (ds : List D) : D.py (.tup (d :: ds)) = .tuple (D.py d :: D.pys ds) := by simp only [D.py, D.pys]
theorem ev_alike (R : List Ev) : PySem.W.AllAlike ((R.map encEv).map D.py) := fun d hd e he => by
  obtain ⟨x, hx, rfl⟩ := List.mem_map.mp hd
  obtain ⟨y, hy, rfl⟩ := List.mem_map.mp he
  obtain ⟨g, _, rfl⟩ := List.mem_map.mp hx
  obtain ⟨g', _, rfl⟩ := List.mem_map.mp hy
  simp [D.py, D.pys, PySem.W.alike, PySem.W.alikeAll]
theorem ev_sortable (R : List Ev) : PySem.W.Sortable ((R.map encEv).map D.py) := .inl fun d hd => by
  obtain ⟨x, hx, rfl⟩ := List.mem_map.mp hd
  obtain ⟨g, _, rfl⟩ := List.mem_map.mp hx
  exact ⟨_, _, py_cons _ _⟩
theorem okn_ev (R : List Ev) : ∀ x ∈ R.map encEv, OkN 8 x := fun x hx => by
  obtain ⟨g, _, rfl⟩ := List.mem_map.mp hx
  exact (okn_tup (n := 1) fun z hz => by
    simp only [List.mem_cons, List.not_mem_nil, or_false] at hz
    rcases hz with rfl | rfl | rfl | rfl <;> exact okn_int.mono (by decide)).mono (by decide)
def keyI (q : Nat × Nat) : List Int := [(q.1 : Int), (q.2 : Int)]
def le2 (a b : Nat × Nat) : Bool := decide (a.1 < b.1) || (decide (a.1 = b.1) && decide (a.2 ≤ b.2))
theorem le_key (a b : Nat × Nat) : PySem.W.dataLe false SDT.pyOf (keyI a) (keyI b) = le2 a b := by
  have h := le_pt (a.1 : Int) (a.2 : Int) (b.1 : Int) (b.2 : Int)
  have e : PySem.W.dataLe false SDT.pyOf (keyI a) (keyI b) = PySem.W.dataLe false D.py (pt a.1 a.2) (pt b.1 b.2) := by
    unfold PySem.W.dataLe keyI PySem.W.sortLe
    simp [SDT.pyOf, D.py, D.pys]
  rw [e, h, Bool.eq_iff_iff]
  unfold leP le2
  simp only [Bool.or_eq_true, Bool.and_eq_true, decide_eq_true_eq]
  omega
theorem key_alike (F : List (Nat × Nat)) : PySem.W.AllAlike ((F.map keyI).map SDT.pyOf) := fun d hd e he => by
  obtain ⟨x, hx, rfl⟩ := List.mem_map.mp hd
  obtain ⟨y, hy, rfl⟩ := List.mem_map.mp he
  obtain ⟨g, _, rfl⟩ := List.mem_map.mp hx
  obtain ⟨g', _, rfl⟩ := List.mem_map.mp hy
  simp [keyI, SDT.pyOf, PySem.W.alike, PySem.W.alikeAll]
theorem key_sortable (F : List (Nat × Nat)) : PySem.W.Sortable ((F.map keyI).map SDT.pyOf) := .inl fun d hd => by
  obtain ⟨x, hx, rfl⟩ := List.mem_map.mp hd
  obtain ⟨g, _, rfl⟩ := List.mem_map.mp hx
  exact ⟨.int g.1, [.int g.2], rfl⟩
theorem srt_keys (F : List (Nat × Nat)) : ((F.map keyI).mergeSort (PySem.W.dataLe false SDT.pyOf)).map (fun k => D.tup (k.map D.int)) = (F.mergeSort le2).map fun q => pt (q.1 : Int) (q.2 : Int) := by
  rw [← List.map_mergeSort (r := le2) (s := PySem.W.dataLe false SDT.pyOf) (f := keyI) fun a _ b _ => (le_key a b).symm, List.map_map]
  rfl
theorem srt2_lt {F : List (Nat × Nat)} (h : F.Nodup) : (F.mergeSort le2).Pairwise lt2 := by
  have h1 := List.pairwise_mergeSort (le := le2) (fun a b c h k => by
    unfold le2 at *
    simp only [Bool.or_eq_true, Bool.and_eq_true, decide_eq_true_eq] at *
    omega) (fun a b => by
    unfold le2
    simp only [Bool.or_eq_true, Bool.and_eq_true, decide_eq_true_eq]
    omega) F
  have h2 : (F.mergeSort le2).Nodup := (List.mergeSort_perm _ _).nodup_iff.mpr h
  exact (h1.and h2).imp fun {a b} ⟨h1, h2⟩ => by
    unfold le2 at h1
    simp only [Bool.or_eq_true, Bool.and_eq_true, decide_eq_true_eq] at h1
    unfold lt2
    have : ¬ (a.1 = b.1 ∧ a.2 = b.2) := fun z => h2 (Prod.ext z.1 z.2)
    omega
theorem row_rN (ls : List Ln) (f : Ln → Ln → Bool) : rows ls f ls.length = (rN ls.length fun i j => f (ls.getD i []) (ls.getD j [])).map fun q => pt (q.1 : Int) (q.2 : Int) := by
  unfold rows rN row
  rw [List.map_flatMap]
  congr 1
  funext i
  rw [List.map_map]
  rfl
structure LsQ (ls : List Ln) : Prop where
  n : ls.length ≤ 100
  l : ∀ l ∈ ls, l.length ≤ 400
  g : ∀ l ∈ ls, ∀ p ∈ l, GoodP p
  d : ∀ l ∈ ls, ∀ p ∈ l, p.1.2 ∣ 12
/-- a measure of the lines' xs -/
structure MsOk (m : Nat) (ls : List Ln) : Prop where
  pos : 0 < m
  dvd : m ∣ 12
  all : ∀ l ∈ ls, ∀ p ∈ l, p.1.2 ∣ (m : Int)
theorem getD_mem' {ls : List Ln} {i : Nat} (h : i < ls.length) : ls.getD i [] ∈ ls := by
  rw [List.getD_eq_getElem?_getD, List.getElem?_eq_getElem h]
  exact List.getElem_mem h
theorem pcAt_mem {ls : List Ln} {p : Id2} (h : p ∈ allP ls) : pcAt ls p ∈ pcs (ls.getD p.1 []) := by
  obtain ⟨_, h2⟩ := mem_allP.mp h
  unfold pcAt
  rw [List.getElem?_eq_getElem h2, Option.getD_some]
  exact List.getElem_mem h2
theorem pcAt_in {ls : List Ln} {p : Id2} (h : p ∈ allP ls) : (pcAt ls p).1 ∈ ls.getD p.1 [] ∧ (pcAt ls p).2 ∈ ls.getD p.1 [] := pcs_mem (pcAt_mem h)
theorem sx_sc {m : Int} {f : Fq} (hd : f.2 ∣ m) : Sc m f (sx m f) := by
  unfold Sc sx
  rw [Int.mul_assoc, Int.ediv_mul_cancel hd]
def tP (ls : List Ln) (q p : Id2) : Bool := tch (pcAt ls q).1 (pcAt ls q).2 (pcAt ls p).1 (pcAt ls p).2
section
variable {ls : List Ln} {m : Nat}
theorem good_at (h : LsQ ls) {p : Id2} (hp : p ∈ allP ls) : GoodP (pcAt ls p).1 ∧ GoodP (pcAt ls p).2 :=
  ⟨h.g _ (getD_mem' (mem_allP.mp hp).1) _ (pcAt_in hp).1, h.g _ (getD_mem' (mem_allP.mp hp).1) _ (pcAt_in hp).2⟩
theorem tP_sym (h : LsQ ls) : ∀ p ∈ allP ls, ∀ q ∈ allP ls, tP ls p q = tP ls q p := fun p hp q hq => tch_sym (good_at h hp).1 (good_at h hp).2 (good_at h hq).1 (good_at h hq).2
theorem tP_ov (h : LsQ ls) (hm : MsOk m ls) : ∀ p ∈ allP ls, ∀ q ∈ allP ls, tP ls p q = true → loP m ls p ≤ hiP m ls q := fun p hp q hq t => by
  have hp1 := mem_allP.mp hp
  have hq1 := mem_allP.mp hq
  have hp2 := pcAt_in hp
  have hq2 := pcAt_in hq
  exact tch_over (g := m) (by have := hm.pos; omega) (good_at h hp).1 (good_at h hp).2 (good_at h hq).1 (good_at h hq).2 (sx_sc (hm.all _ (getD_mem' hp1.1) _ hp2.1)) (sx_sc (hm.all _ (getD_mem' hp1.1) _ hp2.2)) (sx_sc (hm.all _ (getD_mem' hq1.1) _ hq2.1)) (sx_sc (hm.all _ (getD_mem' hq1.1) _ hq2.2)) t
/-- the events in their order -/
def evE (m : Int) (ls : List Ln) : List Ev := sortE (rowsE m ls)
theorem evE_mem {m : Int} : ∀ e, e ∈ evE m ls ↔ ∃ p ∈ allP ls, e = stE (loP m ls) p ∨ e = enE (hiP m ls) p := fun e => by
  unfold evE
  rw [sortE_mem, mem_rowsE]
theorem evE_lt (m : Int) (ls : List Ln) : (evE m ls).Pairwise evLt := sortE_lt (rowsE_nodup m ls)
theorem lo_hi (m : Int) (p : Id2) : loP m ls p ≤ hiP m ls p := by unfold loP hiP; omega
theorem evE_len (h : LsQ ls) (m : Int) : (evE m ls).length ≤ 80000 := by
  unfold evE sortE rowsE
  rw [List.length_mergeSort]
  have h1 := rowsK_len (m := m) h.l ls.length
  have h2 := h.n
  omega
/-- what is found in the end -/
theorem found_iff (h : LsQ ls) (hm : MsOk m ls) (pr : Nat × Nat) : FoundAt (loP m ls) (hiP m ls) (tP ls) (evE m ls) (evE m ls).length pr ↔ pr.1 < pr.2 ∧ pr.2 < ls.length ∧ lmeet (ls.getD pr.1 []) (ls.getD pr.2 []) = true := by
  rw [found_all evE_mem (evE_lt _ _) (tP_sym h) (tP_ov h hm)]
  constructor
  · rintro ⟨p, hp, q, hq, lt, t, rfl⟩
    refine ⟨lt, (mem_allP.mp hq).1, ?_⟩
    unfold lmeet
    show (pcs (ls.getD p.1 [])).any _ = true
    exact List.any_eq_true.mpr ⟨pcAt ls p, pcAt_mem hp, List.any_eq_true.mpr ⟨pcAt ls q, pcAt_mem hq, t⟩⟩
  · rintro ⟨h1, h2, h3⟩
    obtain ⟨i, j⟩ := pr
    unfold lmeet at h3
    obtain ⟨x, hx, h3⟩ := List.any_eq_true.mp h3
    obtain ⟨y, hy, h3⟩ := List.any_eq_true.mp h3
    obtain ⟨a, ha, rfl⟩ := List.getElem_of_mem hx
    obtain ⟨b, hb, rfl⟩ := List.getElem_of_mem hy
    have e1 : pcAt ls (i, a) = (pcs (ls.getD i []))[a] := by unfold pcAt; rw [List.getElem?_eq_getElem ha]; rfl
    have e2 : pcAt ls (j, b) = (pcs (ls.getD j []))[b] := by unfold pcAt; rw [List.getElem?_eq_getElem hb]; rfl
    refine ⟨(i, a), mem_allP.mpr ⟨by dsimp only at h1 h2 ⊢; omega, ha⟩, (j, b), mem_allP.mpr ⟨h2, hb⟩, h1, ?_, rfl⟩
    unfold tP
    rw [e1, e2]
    exact h3
/-- what is found up to the k-th event, each once -/
structure FndOk (m : Int) (ls : List Ln) (k : Nat) (F : List (Nat × Nat)) : Prop where
  nd : F.Nodup
  iff : ∀ pr, pr ∈ F ↔ FoundAt (loP m ls) (hiP m ls) (tP ls) (evE m ls) k pr
/-- .. and of the next one, a start of q, with the first t that are under way -/
structure FndTo (m : Int) (ls : List Ln) (k : Nat) (q : Id2) (t : Nat) (F : List (Nat × Nat)) : Prop where
  nd : F.Nodup
  iff : ∀ pr, pr ∈ F ↔ FoundAt (loP m ls) (hiP m ls) (tP ls) (evE m ls) k pr ∨ ∃ p ∈ (underK (hiP m ls) (evE m ls) k).take t, p.1 ≠ q.1 ∧ tP ls q p = true ∧ pr = prOf q p
theorem fnd_zero (m : Int) (ls : List Ln) : FndOk m ls 0 [] := ⟨List.nodup_nil, fun pr => ⟨fun h => (by cases h), fun ⟨j, _, _, h, _⟩ => (by omega)⟩⟩
theorem fnd_end {m : Int} {k : Nat} {q : Id2} {F : List (Nat × Nat)} (h : FndOk m ls k F) (he : (evE m ls)[k]? = some (enE (hiP m ls) q)) : FndOk m ls (k + 1) F := ⟨h.nd, fun pr => (h.iff pr).trans ⟨fun ⟨j, a, b, h1, h2⟩ => ⟨j, a, b, by omega, h2⟩, fun ⟨j, a, b, h1, h2, h3⟩ => by
  refine ⟨j, a, b, ?_, h2, h3⟩
  have : j ≠ k := fun e => by
    subst e
    rw [he] at h2
    exact st_en (Option.some.inj h2).symm
  omega⟩⟩
theorem fnd_start {m : Int} {k : Nat} {q : Id2} {F : List (Nat × Nat)} (h : FndOk m ls k F) : FndTo m ls k q 0 F := ⟨h.nd, fun pr => (h.iff pr).trans ⟨.inl, fun z => z.elim id fun ⟨p, hp, _⟩ => by simp at hp⟩⟩
theorem fnd_done {m : Int} {k t : Nat} {q : Id2} {F : List (Nat × Nat)} (h : FndTo m ls k q t F) (he : (evE m ls)[k]? = some (stE (loP m ls) q)) (ht : (underK (hiP m ls) (evE m ls) k).length ≤ t) : FndOk m ls (k + 1) F := by
  refine ⟨h.nd, fun pr => (h.iff pr).trans (Iff.intro (fun z => ?_) ?_)⟩
  · rcases z with ⟨j, a, b, h1, h2⟩ | ⟨p, hp, h2, h3, h4⟩
    · exact ⟨j, a, b, by omega, h2⟩
    · exact ⟨k, q, p, by omega, he, List.mem_of_mem_take hp, h2, h3, h4⟩
  · rintro ⟨j, a, b, h1, h2, h3, h4, h5, h6⟩
    by_cases e : j = k
    · subst e
      rw [he] at h2
      have e2 := Option.some.inj h2
      unfold stE at e2
      simp only [Prod.mk.injEq] at e2
      have e3 : q = a := Prod.ext e2.2.2.1 e2.2.2.2
      subst e3
      rw [List.take_of_length_le ht]
      exact .inr ⟨b, h3, h4, h5, h6⟩
    · exact .inl ⟨j, a, b, by omega, h2, h3, h4, h5, h6⟩
theorem fnd_skip {m : Int} {k t : Nat} {q p : Id2} {F : List (Nat × Nat)} (h : FndTo m ls k q t F) (hp : (underK (hiP m ls) (evE m ls) k)[t]? = some p) (hs : ¬ (p.1 ≠ q.1 ∧ prOf q p ∉ F ∧ tP ls q p = true)) : FndTo m ls k q (t + 1) F := ⟨h.nd, fun pr => by
  rw [List.take_add_one, hp]
  constructor
  · intro z
    rcases (h.iff pr).mp z with z | ⟨x, hx, z⟩
    · exact .inl z
    · exact .inr ⟨x, List.mem_append_left _ hx, z⟩
  · rintro (z | ⟨x, hx, z1, z2, z3⟩)
    · exact (h.iff pr).mpr (.inl z)
    · rcases List.mem_append.mp hx with hx | hx
      · exact (h.iff pr).mpr (.inr ⟨x, hx, z1, z2, z3⟩)
      · have e : x = p := by simpa using hx
        subst e
        rw [z3]
        by_cases hin : prOf q x ∈ F
        · exact hin
        · exact absurd ⟨z1, hin, z2⟩ hs⟩
theorem fnd_add {m : Int} {k t : Nat} {q p : Id2} {F : List (Nat × Nat)} (h : FndTo m ls k q t F) (hp : (underK (hiP m ls) (evE m ls) k)[t]? = some p) (h1 : p.1 ≠ q.1) (h2 : prOf q p ∉ F) (h3 : tP ls q p = true) : FndTo m ls k q (t + 1) (F ++ [prOf q p]) := ⟨by
    unfold List.Nodup
    rw [List.pairwise_append]
    exact ⟨h.nd, List.pairwise_singleton _ _, fun a ha b hb e => h2 (by rw [← List.mem_singleton.mp hb, ← e]; exact ha)⟩, fun pr => by
  rw [List.take_add_one, hp, List.mem_append, List.mem_singleton, h.iff pr]
  constructor
  · rintro ((z | ⟨x, hx, z⟩) | z)
    · exact .inl z
    · exact .inr ⟨x, List.mem_append_left _ hx, z⟩
    · exact .inr ⟨p, by simp, h1, h3, z⟩
  · rintro (z | ⟨x, hx, z1, z2, z3⟩)
    · exact .inl (.inl z)
    · rcases List.mem_append.mp hx with hx | hx
      · exact .inl (.inr ⟨x, hx, z1, z2, z3⟩)
      · have e : x = p := by simpa using hx
        subst e
        exact .inr z3⟩
/-- the end -/
theorem fnd_rows (h : LsQ ls) (hm : MsOk m ls) {F : List (Nat × Nat)} (hF : FndOk m ls (evE m ls).length F) : (F.mergeSort le2).map (fun q => pt (q.1 : Int) (q.2 : Int)) = rows ls lmeet ls.length := by
  rw [row_rN]
  congr 1
  refine rise_eq (srt2_lt hF.nd) (rN_rise _ _) fun x => ?_
  rw [(List.mergeSort_perm _ _).mem_iff, hF.iff, found_iff h hm]
  obtain ⟨i, j⟩ := x
  exact (mem_rN (n := ls.length) (F := fun i j => lmeet (ls.getD i []) (ls.getD j []))).symm
end
def flP (p : Pl) : Pl := (p.2, p.1)
theorem sgn_neg (x : Int) : sgn (-x) = - sgn x := by
  unfold sgn
  split <;> split <;> (try split) <;> omega
theorem psd_fl (a b c : Pl) : psd (flP a) (flP b) (flP c) = - psd a b c := by
  unfold psd flP
  rw [← sgn_neg]
  congr 1
  dsimp only
  grind
theorem tch_fl (a b c d : Pl) : tch (flP a) (flP b) (flP c) (flP d) = tch a b c d := by
  unfold tch
  rw [psd_fl, psd_fl, psd_fl, psd_fl, Int.neg_mul_neg, Int.neg_mul_neg]
  unfold flP
  dsimp only
  rw [← Bool.and_assoc, ← Bool.and_assoc, Bool.and_comm (ovl a.2 b.2 c.2 d.2), Bool.and_assoc, Bool.and_assoc]
theorem pcs_map (f : Pl → Pl) : ∀ l : Ln, pcs (l.map f) = (pcs l).map fun q => (f q.1, f q.2)
  | [] => rfl
  | [a] => rfl
  | a :: b :: l => by
    have ih := pcs_map f (b :: l)
    rw [List.map_cons, List.map_cons]
    rw [List.map_cons] at ih
    unfold pcs
    rw [ih, List.map_cons]
theorem lmeet_fl (l m : Ln) : lmeet (l.map flP) (m.map flP) = lmeet l m := by
  unfold lmeet
  rw [pcs_map, pcs_map, List.any_map]
  congr 1
  funext p
  simp only [Function.comp_apply]
  rw [List.any_map]
  congr 1
  funext q
  exact tch_fl _ _ _ _
theorem pcs_app : ∀ (l : Ln) (a b : Pl), pcs (l ++ [a, b]) = pcs (l ++ [a]) ++ [(a, b)]
  | [], a, b => rfl
  | [c], a, b => rfl
  | c :: d :: l, a, b => by
    have ih := pcs_app (d :: l) a b
    simp only [List.cons_append] at ih ⊢
    unfold pcs
    rw [ih, List.cons_append]
theorem pcs_rev : ∀ l : Ln, pcs l.reverse = ((pcs l).map fun q => (q.2, q.1)).reverse
  | [] => rfl
  | [a] => rfl
  | a :: b :: l => by
    have ih := pcs_rev (b :: l)
    rw [List.reverse_cons, List.reverse_cons, List.append_assoc]
    rw [List.reverse_cons] at ih
    show pcs (l.reverse ++ [b, a]) = _
    rw [pcs_app, ih]
    conv => rhs; unfold pcs
    rw [List.map_cons, List.reverse_cons]
theorem any_congr {α : Type} {f g : α → Bool} {l : List α} (h : ∀ x ∈ l, f x = g x) : l.any f = l.any g := by
  induction l with
  | nil => rfl
  | cons a l ih => rw [List.any_cons, List.any_cons, h a List.mem_cons_self, ih fun x hx => h x (List.mem_cons_of_mem _ hx)]
theorem lmeet_rev {l m : Ln} (gl : ∀ p ∈ l, GoodP p) (gm : ∀ p ∈ m, GoodP p) : lmeet l.reverse m.reverse = lmeet l m := by
  unfold lmeet
  rw [pcs_rev, pcs_rev, List.any_reverse, List.any_map]
  refine any_congr fun p hp => ?_
  simp only [Function.comp_apply]
  rw [List.any_reverse, List.any_map]
  refine any_congr fun q hq => ?_
  simp only [Function.comp_apply]
  obtain ⟨p1, p2⟩ := pcs_mem hp
  obtain ⟨q1, q2⟩ := pcs_mem hq
  rw [tch_turn (gl _ p2) (gl _ p1) (gm _ q1) (gm _ q2), tch_sym (gl _ p2) (gl _ p1) (gm _ q1) (gm _ q2), tch_turn (gm _ q1) (gm _ q2) (gl _ p1) (gl _ p2), tch_sym (gm _ q1) (gm _ q2) (gl _ p1) (gl _ p2)]
theorem rows_map {ls : List Ln} (f : Ln → Ln) (h0 : f [] = []) (h : ∀ l ∈ ls, ∀ m ∈ ls, lmeet (f l) (f m) = lmeet l m) : rows (ls.map f) lmeet (ls.map f).length = rows ls lmeet ls.length := by
  rw [row_rN, row_rN, List.length_map]
  congr 1
  refine rise_eq (rN_rise _ _) (rN_rise _ _) fun x => ?_
  obtain ⟨i, j⟩ := x
  rw [mem_rN, mem_rN]
  have e : ∀ k, (ls.map f).getD k [] = f (ls.getD k []) := fun k => by
    rw [List.getD_eq_getElem?_getD, List.getD_eq_getElem?_getD, List.getElem?_map]
    cases ls[k]? with
    | none => exact h0.symm
    | some l => rfl
  refine and_congr_right fun h1 => and_congr_right fun h2 => ?_
  rw [e, e, h _ (getD_mem' (by omega)) _ (getD_mem' h2)]
end Swp
namespace Swp
open Z Tch Fr2
def key2 (p : Nat × Nat) : List L2.Key := [.inl (p.1 : Int), .inl (p.2 : Int)]
theorem key2_inj {p q : Nat × Nat} (h : key2 p = key2 q) : p = q := by
  unfold key2 at h
  simp only [List.cons.injEq, Sum.inl.injEq, and_true] at h
  exact Prod.ext (by omega) (by omega)
def undK (ls : List Ln) (U : List Id2) : List (List L2.Key × D) := U.map fun p => (key2 p, encC (pcAt ls p))
def fndK (F : List (Nat × Nat)) : List (List L2.Key × D) := F.map fun q => (key2 q, D.bl true)
theorem val_fnd (F : List (Nat × Nat)) (q : Nat × Nat) : (valD (fndK F) (key2 q)).isSome = decide (q ∈ F) := by
  rw [val_any]
  unfold fndK
  rw [List.any_map, Bool.eq_iff_iff, List.any_eq_true, decide_eq_true_eq]
  constructor
  · rintro ⟨x, hx, e⟩
    simp only [Function.comp_apply, decide_eq_true_eq] at e
    rw [← key2_inj e]
    exact hx
  · intro h
    exact ⟨q, h, by simp⟩
theorem val_none {κ : Type} [DecidableEq κ] {r : List (κ × D)} {k : κ} (h : (valD r k).isSome = false) : valD r k = none := by
  cases e : valD r k with
  | none => rfl
  | some d => rw [e] at h; cases h
theorem put_fnd {F : List (Nat × Nat)} {q : Nat × Nat} (h : q ∉ F) : putKD (fndK F) (key2 q) (D.bl true) = fndK (F ++ [q]) := by
  rw [putKD_new (val_none (by rw [val_fnd]; exact decide_eq_false h))]
  unfold fndK
  rw [List.map_append]
  rfl
theorem val_und (ls : List Ln) (U : List Id2) (q : Id2) : (valD (undK ls U) (key2 q)).isSome = decide (q ∈ U) := by
  rw [val_any]
  unfold undK
  rw [List.any_map, Bool.eq_iff_iff, List.any_eq_true, decide_eq_true_eq]
  constructor
  · rintro ⟨x, hx, e⟩
    simp only [Function.comp_apply, decide_eq_true_eq] at e
    rw [← key2_inj e]
    exact hx
  · intro h
    exact ⟨q, h, by simp⟩
theorem put_und {ls : List Ln} {U : List Id2} {q : Id2} (h : q ∉ U) : putKD (undK ls U) (key2 q) (encC (pcAt ls q)) = undK ls (U ++ [q]) := by
  rw [putKD_new (val_none (by rw [val_und]; exact decide_eq_false h))]
  unfold undK
  rw [List.map_append]
  rfl
theorem drop_und (ls : List Ln) (U : List Id2) (q : Id2) : dropKD (undK ls U) (key2 q) = undK ls (U.filter fun p => decide (p ≠ q)) := by
  unfold dropKD undK
  rw [List.filter_map]
  congr 1
  refine List.filter_congr fun p _ => ?_
  simp only [Function.comp_apply]
  exact decide_eq_decide.mpr ⟨fun h e => h (by rw [e]), fun h e => h (key2_inj e)⟩
theorem val_und_some {ls : List Ln} {U : List Id2} {q : Id2} (h : q ∈ U) : ∃ d, valD (undK ls U) (key2 q) = some d := by
  have := val_und ls U q
  rw [decide_eq_true h] at this
  exact Option.isSome_iff_exists.mp this
theorem lcm_step {m : Nat} {b : Int} (hm : 0 < m) (hb : 0 < b) : (m : Int) * ((if b < 0 then -b else b) / (Nat.gcd (m : Int).natAbs b.natAbs : Nat)) = ((Nat.lcm m b.natAbs : Nat) : Int) := by
  have h := msF_nat m b.natAbs hm
  unfold msF at h
  rw [show ((b.natAbs : Nat) : Int) = b by omega] at h
  exact h
theorem lcm_12 {m : Nat} {b : Int} (h : m ∣ 12) (hb : b ∣ 12) : Nat.lcm m b.natAbs ∣ 12 := Nat.lcm_dvd h (by have := Int.natAbs_dvd_natAbs.mpr hb; exact this)
theorem lcm_dvd1 {m : Nat} {b c : Int} (h : c ∣ (m : Int)) : c ∣ ((Nat.lcm m b.natAbs : Nat) : Int) := Int.dvd_trans h (Int.natCast_dvd_natCast.mpr (Nat.dvd_lcm_left _ _))
theorem lcm_dvd2 {m : Nat} {b : Int} : b ∣ ((Nat.lcm m b.natAbs : Nat) : Int) := Int.natAbs_dvd.mp (Int.natCast_dvd_natCast.mpr (Nat.dvd_lcm_right _ _))
theorem lcm_pos {m : Nat} {b : Int} (h : 0 < m) (hb : 0 < b) : 0 < Nat.lcm m b.natAbs := Nat.lcm_pos h (by omega)
end Swp
namespace Swp
open Z Tch Fr2
theorem mem_before {E : List Ev} (hs : E.Pairwise evLt) {k : Nat} {e e' : Ev} (h : E[k]? = some e) (hin : e' ∈ E) (lt : evLt e' e) : e' ∈ E.take k := by
  obtain ⟨hk, ek⟩ := List.getElem?_eq_some_iff.mp h
  obtain ⟨n, hn, en⟩ := List.getElem_of_mem hin
  have hnk : n < k := by
    rcases Nat.lt_trichotomy n k with z | z | z
    · exact z
    · subst z
      rw [en] at ek
      rw [ek] at lt
      exact absurd lt (evLt_irr _)
    · have := List.pairwise_iff_getElem.mp hs k n hk hn z
      rw [ek, en] at this
      exact absurd (evLt_tr lt this) (evLt_irr _)
  rw [← en]
  exact List.mem_iff_getElem.mpr ⟨n, by rw [List.length_take]; omega, by rw [List.getElem_take]⟩
theorem und_end {lo hi : Id2 → Int} {E : List Ev} {S : List Id2} (hE : ∀ e, e ∈ E ↔ ∃ p ∈ S, e = stE lo p ∨ e = enE hi p) (hs : E.Pairwise evLt) {k : Nat} {q : Id2} (hq : q ∈ S) (hl : lo q ≤ hi q) (h : E[k]? = some (enE hi q)) : q ∈ underK hi E k :=
  (mem_under hE).mpr ⟨hq, mem_before hs h ((hE _).mpr ⟨q, hq, .inl rfl⟩) (by unfold evLt stE enE; dsimp only; omega), fun z => evLt_irr _ (not_before hs h z)⟩
theorem und_start {lo hi : Id2 → Int} {E : List Ev} {S : List Id2} (hE : ∀ e, e ∈ E ↔ ∃ p ∈ S, e = stE lo p ∨ e = enE hi p) (hs : E.Pairwise evLt) {k : Nat} {q : Id2} (h : E[k]? = some (stE lo q)) : q ∉ underK hi E k :=
  fun z => evLt_irr _ (not_before hs h ((mem_under hE).mp z).2.1)
theorem grid_len (n : Nat) : ∀ k, ((List.range k).flatMap fun i => (List.range n).map fun j => (i, j)).length = k * n
  | 0 => by simp
  | k + 1 => by
    rw [List.range_succ, List.flatMap_append, List.length_append, grid_len n k, Nat.succ_mul]
    simp
theorem pairs_small {F : List (Nat × Nat)} {n : Nat} (nd : F.Nodup) (h : ∀ p ∈ F, p.1 < n ∧ p.2 < n) : F.length ≤ n * n := by
  rw [← grid_len n n]
  refine List.Nodup.length_le_of_subset nd fun p hp => ?_
  obtain ⟨h1, h2⟩ := h p hp
  exact List.mem_flatMap.mpr ⟨p.1, List.mem_range.mpr h1, List.mem_map.mpr ⟨p.2, List.mem_range.mpr h2, rfl⟩⟩
section
variable {ls : List Ln} {m : Int} {k t : Nat} {q : Id2} {F : List (Nat × Nat)}
theorem pr_lt {q p : Id2} (hq : q ∈ allP ls) (hp : p ∈ allP ls) : (prOf q p).1 < ls.length ∧ (prOf q p).2 < ls.length := by
  have h1 := (mem_allP.mp hq).1
  have h2 := (mem_allP.mp hp).1
  unfold prOf
  dsimp only
  omega
theorem und_in {p : Id2} (hp : p ∈ underK (hiP m ls) (evE m ls) k) : p ∈ allP ls := ((mem_under (evE_mem (m := m))).mp hp).1
theorem fnd_small (h : LsQ ls) (hq : q ∈ allP ls) (hF : FndTo m ls k q t F) : F.length ≤ 10000 := by
  have h1 := pairs_small (n := ls.length) hF.nd fun pr hpr => by
    rcases (hF.iff pr).mp hpr with ⟨j, a, b, _, h2, h3, _, _, rfl⟩ | ⟨b, hb, _, _, rfl⟩
    · obtain ⟨p, hp, z | z⟩ := (evE_mem _).mp (List.mem_of_getElem? h2)
      · unfold stE at z
        simp only [Prod.mk.injEq] at z
        have e : a = p := Prod.ext z.2.2.1 z.2.2.2
        subst e
        exact pr_lt hp (und_in h3)
      · exact absurd z st_en
    · exact pr_lt hq (und_in (List.mem_of_mem_take hb))
  have h2 := Nat.mul_le_mul h.n h.n
  omega
theorem und_small (h : LsQ ls) : (underK (hiP m ls) (evE m ls) k).length ≤ 80000 := by
  have h1 := evE_len h m
  unfold underK
  rw [List.length_map]
  have h2 := List.length_filter_le (fun e : Ev => decide (e.2.1 = 0) && !decide (enE (hiP m ls) e.2.2 ∈ (evE m ls).take k)) ((evE m ls).take k)
  rw [List.length_take] at h2
  omega
theorem pcAt_get (hq : q ∈ allP ls) : (pcs (ls.getD q.1 []))[q.2]? = some (pcAt ls q) := by
  obtain ⟨_, h2⟩ := mem_allP.mp hq
  unfold pcAt
  rw [List.getElem?_eq_getElem h2, Option.getD_some]
theorem items_get {U : List Id2} {x : D} (h : (itemsD (undK ls U))[t]? = some x) : ∃ p, U[t]? = some p ∧ x = .tup [.tup [.int (p.1 : Int), .int (p.2 : Int)], encC (pcAt ls p)] := by
  unfold itemsD undK at h
  rw [List.map_map, List.getElem?_map] at h
  cases e : U[t]? with
  | none => rw [e] at h; cases h
  | some p => rw [e] at h; cases h; exact ⟨p, rfl, rfl⟩
theorem pr_enc (q p : Id2) : D.tup [.int (if (p.1 : Int) < (q.1 : Int) then (p.1 : Int) else (q.1 : Int)), .int (if (p.1 : Int) > (q.1 : Int) then (p.1 : Int) else (q.1 : Int))] = kT (key2 (prOf q p)) := by
  unfold key2 prOf
  show _ = D.tup [.int ((min q.1 p.1 : Nat) : Int), .int ((max q.1 p.1 : Nat) : Int)]
  have e1 : (if (p.1 : Int) < (q.1 : Int) then (p.1 : Int) else (q.1 : Int)) = ((min q.1 p.1 : Nat) : Int) := by split <;> omega
  have e2 : (if (p.1 : Int) > (q.1 : Int) then (p.1 : Int) else (q.1 : Int)) = ((max q.1 p.1 : Nat) : Int) := by split <;> omega
  rw [e1, e2]
end
end Swp
namespace W
open PySem L2 Z
local macro_rules | `(tactic| walk_at "mu") => `(tactic| first
  | assumption
  | exact set_same
  | (refine Eq.trans (set_ne ?_) ?_; (first | assumption | (apply Ne.symm; assumption) | (intro h; subst h; simp_all)); walk_at "mu"))
local macro_rules | `(tactic| walk_at "seq") => `(tactic| first
  | rfl
  | (refine seq_ref ?_; walk_at "mu"))
local macro_rules | `(tactic| walk_at "sz") => `(tactic| first
  | assumption
  | (refine sz_2 ?_; decide)
  | (refine sz_8 ?_; decide)
  | (refine sz_32 ?_; decide)
  | (refine sz_128 ?_; decide +kernel)
  | ((with_reducible refine sz_add (a := ?a) (b := ?b) ?h ?k); (case h => walk_at "sz"); (case k => walk_at "sz"))
  | ((with_reducible refine sz_sub (a := ?a) (b := ?b) ?h ?k); (case h => walk_at "sz"); (case k => walk_at "sz"))
  | ((with_reducible refine sz_mul (a := ?a) (b := ?b) ?h ?k); (case h => walk_at "sz"); (case k => walk_at "sz"))
  | ((with_reducible refine sz_neg ?_) <;> walk_at "sz")
  | with_reducible exact sz_b
  | ((with_reducible refine sz_mod ?h1 ?h2); (case h1 => omega); (case h2 => walk_at "sz")))
local macro_rules | `(tactic| walk_at "szN") => `(tactic| first
  | assumption
  | (refine sz_mono (a := ?a) ?h ?l; (case h => walk_at "sz"); (case l => first | decide | omega)))
local macro_rules | `(tactic| walk_at "cond") => `(tactic| first
  | assumption
  | (refine mulw_of (a := ?a) (b := ?b) ?h ?k ?l; (case h => walk_at "sz"); (case k => walk_at "sz"); (case l => first | decide | omega))
  | (refine divw_of (b := ?b) ?h ?k ?l; (case h => omega); (case k => walk_at "sz"); (case l => first | decide | omega))
  | (show (0 : Int) < _; first | assumption | omega | decide)
  | (refine ⟨?_, ?_, ?_⟩ <;> first | assumption | decide | omega))
local macro_rules | `(tactic| walk_at "nf") => `(tactic| ((try simp only [List.set_cons_zero, List.set_cons_succ, Int.reduceToNat, Int.reducePow]); (try dsimp only)))
local macro_rules | `(tactic| walk_at "z1") => `(tactic| first
  | (with_reducible refine s_seq ?_)
  | ((with_reducible refine s_asgX ?_); (first | refine x_meth ?_ | refine x_call ?_))
  | (with_reducible refine s_asg ?_)
  | ((with_reducible refine s_ret ?_); (try dsimp only))
  | ((with_reducible refine s_next ?_); (try dsimp only))
  | ((with_reducible refine s_dropX ?_); (first | refine x_meth ?_ | refine x_call ?_))
  | (with_reducible refine s_drop ?_)
  | ((with_reducible refine s_retN ?_); (try dsimp only))
  | (with_reducible refine s_par ?_)
  | (with_reducible refine s_par3 ?_)
  | ((with_reducible refine g_name ?_); walk_at "nf")
  | ((with_reducible refine g_tup ?zn ?_); (case zn => rfl))
  | (with_reducible refine gs_cons ?_)
  | ((with_reducible refine gs_nil ?_); (try dsimp only))
  | ((with_reducible refine s_aug (d := ?zd) ?zh ?_); (case zh => rfl))
  | ((with_reducible refine a_var (d := ?zd) ?zh ?_); (case zh => rfl))
  | (with_reducible refine a_int ?_)
  | (with_reducible refine a_bl ?_)
  | (with_reducible refine a_str ?_)
  | (with_reducible refine a_non ?_)
  | (with_reducible refine a_ty ?_)
  | (with_reducible refine a_cref ?_)
  | (with_reducible refine a_revT ?_)
  | (with_reducible refine ro_neS ?_)
  | (with_reducible refine a_op ?_)
  | (with_reducible refine a_un ?_)
  | (with_reducible refine aa_cons ?_)
  | (with_reducible refine aa_nil ?_)
  | ((with_reducible refine a_tup ?_))
  | ((with_reducible refine a_lst ?_))
  | ((with_reducible refine a_lenSc (dec := ?zd) ?zt ?_); (case zt => first | exact tg_4 | exact tg_2 | exact tg_3 | exact tg_name))
  | (with_reducible refine a_cb ?_)
  | (with_reducible refine a_call ?_)
  | (with_reducible refine a_callX ?_)
  | (with_reducible refine a_methX ?_)
  | (with_reducible refine a_methI ?_)
  | (with_reducible refine rc_max3 ?_)
  | (with_reducible refine a_if ?_)
  | (with_reducible refine a_andV ?_)
  | (with_reducible refine a_orV ?_)
  | (with_reducible refine a_notV ?_)
  | (with_reducible refine at_test ?_)
  | (with_reducible refine at_B ?_)
  | (with_reducible refine at_and ?_)
  | (with_reducible refine at_or ?_)
  | (with_reducible refine at_not ?_)
  | (with_reducible refine at_yes ?_)
  | (with_reducible refine a_chain ?_)
  | (with_reducible refine a_chain3 ?_)
  | (with_reducible refine s_if ?_)
  | (with_reducible refine g_sub ?_)
  | (with_reducible refine ro_i ?_)
  | (with_reducible refine ru_i ?_)
  | (with_reducible refine ro_b ?_)
  | ((with_reducible refine ro_c (C := CPow) ?zc ?_); (case zc => walk_at "cond"); walk_at "nf")
  | ((with_reducible refine ro_c ?zc ?_); (case zc => walk_at "cond"))
  | ((with_reducible refine ro_ix (ds := ?zd) (e := ?ze) ?zs ?zi ?_); (case zs => walk_at "seq"); (case zi => rfl))
  | ((with_reducible refine set_lst (ds := ?zd) (j := ?zj) ?zs ?zi ?_); (case zs => walk_at "mu"); (case zi => rfl); walk_at "nf")
  | (with_reducible refine a_sl ?_)
  | (with_reducible refine ao_no ?_)
  | (with_reducible refine ao_pt ?_)
  | ((with_reducible refine rs_ref (ds := ?zd) ?zs ?_); (case zs => walk_at "mu"))
  | (with_reducible refine rs_rol ?_)
  | (with_reducible refine rs_tupA ?_)
  | ((with_reducible refine ro_catA ?zl ?_); (case zl => exact Nat.le_of_ble_eq_true rfl))
  | ((with_reducible refine ro_cat (ds := ?zd) (es := ?ze) ?zs ?zt ?zl ?_); (case zs => walk_at "mu"); (case zt => walk_at "mu"); (case zl => exact Nat.le_of_ble_eq_true rfl))
  | (with_reducible refine iteT ?_)
  | (with_reducible refine iteF ?_)
  | (with_reducible refine iteNT ?_)
  | (with_reducible refine iteNF ?_)
  | ((with_reducible refine ro_eqD ?h1 ?h2 ?_); (case h1 => rfl); (case h2 => rfl))
  | ((with_reducible refine ro_neD ?h1 ?h2 ?_); (case h1 => rfl); (case h2 => rfl))
  | ((with_reducible refine ro_inS (ds := ?zd) ?zs ?h1 ?h2 ?_); (case zs => walk_at "seq"); (case h1 => rfl); (case h2 => rfl); (try simp only [if_true, if_false, Bool.false_eq_true]))
  | (with_reducible refine ro_isB ?_)
  | (with_reducible refine ro_isN ?_)
  | (with_reducible refine ro_notN ?_)
  | (with_reducible refine ro_notB ?_)
  | (with_reducible refine ro_eqI ?_)
  | (with_reducible refine ro_neI ?_)
  | (with_reducible refine ro_eqB ?_)
  | (with_reducible refine ro_neB ?_)
  | (with_reducible refine rc_intB ?_)
  | (with_reducible refine rc_intI ?_)
  | (with_reducible refine rc_abs ?_)
  | (with_reducible refine rc_min ?_)
  | (with_reducible refine rc_max ?_)
  | ((with_reducible refine rc_len (ds := ?zd) ?zs ?_); (case zs => walk_at "seq"))
  | ((with_reducible refine rc_isi (n := ?zn) (b := ?zb) ?zs ?zk ?_); (case zs => rfl); (case zk => first | rfl | decide +kernel))
  | (with_reducible refine ⟨_, rfl, ?_⟩)
  | ((with_reducible refine ⟨_, _, rfl, ?_⟩); walk_at "nf")
  | ((with_reducible refine ⟨_, _, _, rfl, ?_⟩); walk_at "nf")
  | (refine ⟨Nat.le_of_ble_eq_true rfl, ?_⟩))
local macro_rules | `(tactic| walk_at "go") => `(tactic| repeat (walk_at "z1"))
def top (i : Nat) : Stmt := PySem.Challenge.pw_rubberroutes_k43_sweeps.main.body.getD i (.Pass ⟨0, 0, 0, 0⟩)
abbrev s_common : Stmt := top 4
abbrev N_common : List Str := ["one", "other"]
theorem sc_common : FnScope N_common ["one", "other"] (defScope s_common) := ⟨rfl, rfl, rfl, by decide +kernel, rfl, by decide +kernel, by decide +kernel⟩
abbrev s_frac : Stmt := top 5
abbrev N_frac : List Str := ["top", "bottom", "sign", "e", "by"]
theorem sc_frac : FnScope N_frac ["top", "bottom"] (defScope s_frac) := ⟨rfl, rfl, rfl, by decide +kernel, rfl, by decide +kernel, by decide +kernel⟩
abbrev s_sign_of : Stmt := top 6
abbrev N_sign_of : List Str := ["number"]
theorem sc_sign_of : FnScope N_sign_of ["number"] (defScope s_sign_of) := ⟨rfl, rfl, rfl, by decide +kernel, rfl, by decide +kernel, by decide +kernel⟩
abbrev s_less : Stmt := top 7
abbrev N_less : List Str := ["one", "other"]
theorem sc_less : FnScope N_less ["one", "other"] (defScope s_less) := ⟨rfl, rfl, rfl, by decide +kernel, rfl, by decide +kernel, by decide +kernel⟩
abbrev s_place_side : Stmt := top 8
abbrev N_place_side : List Str := ["a", "b", "c", "along", "up", "across", "over", "left"]
theorem sc_place_side : FnScope N_place_side ["a", "b", "c"] (defScope s_place_side) := ⟨rfl, rfl, rfl, by decide +kernel, rfl, by decide +kernel, by decide +kernel⟩
abbrev s_is_least : Stmt := top 9
abbrev N_is_least : List Str := ["one", "other"]
theorem sc_is_least : FnScope N_is_least ["one", "other"] (defScope s_is_least) := ⟨rfl, rfl, rfl, by decide +kernel, rfl, by decide +kernel, by decide +kernel⟩
abbrev s_overlap : Stmt := top 10
abbrev N_overlap : List Str := ["a", "b", "c", "d", "low", "high", "least", "most"]
theorem sc_overlap : FnScope N_overlap ["a", "b", "c", "d"] (defScope s_overlap) := ⟨rfl, rfl, rfl, by decide +kernel, rfl, by decide +kernel, by decide +kernel⟩
abbrev s_touch : Stmt := top 11
abbrev N_touch : List Str := ["a", "b", "c", "d"]
theorem sc_touch : FnScope N_touch ["a", "b", "c", "d"] (defScope s_touch) := ⟨rfl, rfl, rfl, by decide +kernel, rfl, by decide +kernel, by decide +kernel⟩
abbrev s_l_low : Stmt := top 20
abbrev N_l_low : List Str := ["_law_over", "_law_under", "_law_one", "_law_other"]
theorem sc_l_low : FnScope N_l_low ["_law_over", "_law_under"] (defScope s_l_low) := ⟨rfl, rfl, rfl, by decide +kernel, rfl, by decide +kernel, by decide +kernel⟩
abbrev s_pieces_of : Stmt := top 13
abbrev N_pieces_of : List Str := ["line"]
theorem sc_pieces_of : FnScope N_pieces_of ["line"] (defScope s_pieces_of) := ⟨rfl, rfl, rfl, by decide +kernel, rfl, by decide +kernel, by decide +kernel⟩
abbrev s_measure_of : Stmt := top 14
abbrev N_measure_of : List Str := ["lines", "found", "line", "top", "bottom", "y"]
theorem sc_measure_of : FnScope N_measure_of ["lines"] (defScope s_measure_of) := ⟨rfl, rfl, rfl, by decide +kernel, rfl, by decide +kernel, by decide +kernel⟩
abbrev s_sweep_rows : Stmt := top 15
abbrev N_sweep_rows : List Str := ["lines", "measure", "found", "number", "line", "at", "piece", "places", "y", "top", "bottom"]
theorem sc_sweep_rows : FnScope N_sweep_rows ["lines"] (defScope s_sweep_rows) := ⟨rfl, rfl, rfl, by decide +kernel, rfl, by decide +kernel, by decide +kernel⟩
abbrev s_swept : Stmt := top 16
abbrev N_swept : List Str := ["lines", "under", "found", "x", "word", "number", "at", "a", "b", "other", "there", "c", "d", "pair"]
theorem sc_swept : FnScope N_swept ["lines"] (defScope s_swept) := ⟨rfl, rfl, rfl, by decide +kernel, rfl, by decide +kernel, by decide +kernel⟩
abbrev s_l_bag : Stmt := top 18
abbrev N_l_bag : List Str := ["_law_script", "_law_at", "_law_cell", "_law_great", "_law_primes"]
theorem sc_l_bag : FnScope N_l_bag ["_law_script", "_law_at"] (defScope s_l_bag) := ⟨rfl, rfl, rfl, by decide +kernel, rfl, by decide +kernel, by decide +kernel⟩
abbrev s_l_take : Stmt := top 19
abbrev N_l_take : List Str := ["_law_bag_here", "_law_many", "_law_digit"]
theorem sc_l_take : FnScope N_l_take ["_law_bag_here", "_law_many"] (defScope s_l_take) := ⟨rfl, rfl, rfl, by decide +kernel, rfl, by decide +kernel, by decide +kernel⟩
abbrev s_l_homogen : Stmt := top 21
abbrev N_l_homogen : List Str := ["_law_place_here", "_law_a", "_law_b", "_law_c", "_law_d"]
theorem sc_l_homogen : FnScope N_l_homogen ["_law_place_here"] (defScope s_l_homogen) := ⟨rfl, rfl, rfl, by decide +kernel, rfl, by decide +kernel, by decide +kernel⟩
abbrev s_l_spin : Stmt := top 22
abbrev N_l_spin : List Str := ["_law_a", "_law_b", "_law_c", "_law_found"]
theorem sc_l_spin : FnScope N_l_spin ["_law_a", "_law_b", "_law_c"] (defScope s_l_spin) := ⟨rfl, rfl, rfl, by decide +kernel, rfl, by decide +kernel, by decide +kernel⟩
abbrev s_l_within : Stmt := top 23
abbrev N_l_within : List Str := ["_law_a", "_law_b", "_law_c", "_law_found", "_law_k", "_law_ends"]
theorem sc_l_within : FnScope N_l_within ["_law_a", "_law_b", "_law_c"] (defScope s_l_within) := ⟨rfl, rfl, rfl, by decide +kernel, rfl, by decide +kernel, by decide +kernel⟩
abbrev s_l_touch : Stmt := top 24
abbrev N_l_touch : List Str := ["_law_a", "_law_b", "_law_c", "_law_d", "_law_rows", "_law_sides", "_law_hand", "_law_one", "_law_other", "_law_far"]
theorem sc_l_touch : FnScope N_l_touch ["_law_a", "_law_b", "_law_c", "_law_d"] (defScope s_l_touch) := ⟨rfl, rfl, rfl, by decide +kernel, rfl, by decide +kernel, by decide +kernel⟩
abbrev s_l_place : Stmt := top 25
abbrev N_l_place : List Str := ["_law_bag_here", "_law_under", "_law_far", "_law_found", "_law_turn", "_law_top"]
theorem sc_l_place : FnScope N_l_place ["_law_bag_here", "_law_under", "_law_far"] (defScope s_l_place) := ⟨rfl, rfl, rfl, by decide +kernel, rfl, by decide +kernel, by decide +kernel⟩
abbrev s_l_lines : Stmt := top 26
abbrev N_l_lines : List Str := ["_law_bag_here", "_law_most", "_law_far", "_law_found", "_law_all_places", "_law_turn", "_law_line", "_law_again", "_law_way", "_law_place_here"]
theorem sc_l_lines : FnScope N_l_lines ["_law_bag_here", "_law_most"] (defScope s_l_lines) := ⟨rfl, rfl, rfl, by decide +kernel, rfl, by decide +kernel, by decide +kernel⟩
abbrev s_l_meet : Stmt := top 27
abbrev N_l_meet : List Str := ["_law_one", "_law_other", "_law_mine", "_law_yours", "_law_k", "_law_j", "_law_place_here"]
theorem sc_l_meet : FnScope N_l_meet ["_law_one", "_law_other"] (defScope s_l_meet) := ⟨rfl, rfl, rfl, by decide +kernel, rfl, by decide +kernel, by decide +kernel⟩
abbrev s_l_pairs : Stmt := top 28
abbrev N_l_pairs : List Str := ["_law_lines_here", "_law_found", "_law_one", "_law_other"]
theorem sc_l_pairs : FnScope N_l_pairs ["_law_lines_here"] (defScope s_l_pairs) := ⟨rfl, rfl, rfl, by decide +kernel, rfl, by decide +kernel, by decide +kernel⟩
abbrev s_law : Stmt := top 29
abbrev N_law : List Str := ["_law_script", "_law_k", "_law_bag_here", "_law_lines_here", "_law_due", "_law_about", "_law_back", "_law_line", "_law_x", "_law_y"]
theorem sc_law : FnScope N_law ["_law_script"] (defScope s_law) := ⟨rfl, rfl, rfl, by decide +kernel, rfl, by decide +kernel, by decide +kernel⟩
structure Bs (mg : Str → Option Value) : Prop where
  b_ZeroDivisionError : mg "ZeroDivisionError" = none
  b_abs : mg "abs" = none
  b_enumerate : mg "enumerate" = none
  b_int : mg "int" = none
  b_len : mg "len" = none
  b_list : mg "list" = none
  b_max : mg "max" = none
  b_min : mg "min" = none
  b_range : mg "range" = none
  b_sorted : mg "sorted" = none
  b_tuple : mg "tuple" = none
  b_zip : mg "zip" = none
abbrev xn (mg : Str → Option Value) : Str → Option Value := fun x => if x ∈ (["NoFraction"] : List Str) then mg x else none
theorem xn_at {mg : Str → Option Value} {x : Str} {v : Value} (m : mg x = some v) (h : x ∈ (["NoFraction"] : List Str) := by decide) : xn mg x = some v := by
  unfold xn
  rw [if_pos h]
  exact m
section
variable {P : Program} {w : World} {K : PySem.W.Frag} {mg : Str → Option Value} {base : Heap}
def P_common : PT3 := fun ds μ Φ => ∃ a b : Nat, ds = [.int a, .int b] ∧ Φ (.int (Nat.gcd a b : Nat)) μ
theorem len_common (ds : List D) (μ : M) (Φ : D → M → Prop) (h : P_common ds μ Φ) : ds.length = 2 := by
  obtain ⟨_, _, rfl, _⟩ := h
  rfl
def lowT (x y : Int) : Int := (if y < 0 then -x else x) / (Nat.gcd x.natAbs y.natAbs : Nat)
def lowB (x y : Int) : Int := (if y < 0 then -y else y) / (Nat.gcd x.natAbs y.natAbs : Nat)
def P_frac : PT4 := fun ds μ Φ Ξ => ∃ x y : Int, ds = [.int x, .int y] ∧ Sz 5000 y ∧ (y ≠ 0 → Φ (.tup [.int (lowT x y), .int (lowB x y)]) μ) ∧ (y = 0 → Ξ "NoFraction" none μ)
theorem len_frac (ds : List D) (μ : M) (Φ : D → M → Prop) (Ξ : XW) (h : P_frac ds μ Φ Ξ) : ds.length = 2 := by
  obtain ⟨_, _, rfl, _⟩ := h
  rfl
theorem gcd_turn' {a b : Nat} (h : 0 < b) : Nat.gcd b (a % b) = Nat.gcd a b := by
  rw [Nat.gcd_comm a b, Nat.gcd_rec b a, Nat.gcd_comm]
theorem low_fdiv {x y sg : Int} {g : Nat} (g0 : 0 < g) (h : g ∣ x.natAbs) (hs : (sg = 1 ∧ 0 < y) ∨ (sg = -1 ∧ y < 0)) : x.fdiv ((g : Int) * sg) = (if y < 0 then -x else x) / (g : Int) := by
  have hx : (g : Int) ∣ x := Int.natAbs_dvd_natAbs.mp (by simpa using h)
  obtain ⟨k, hk⟩ := hx
  rcases hs with ⟨rfl, h1⟩ | ⟨rfl, h1⟩
  · rw [if_neg (by omega), hk, Int.mul_one, Int.mul_fdiv_cancel_left _ (by omega), Int.mul_ediv_cancel_left _ (by omega)]
  · rw [if_pos h1, hk, show (g : Int) * k = ((g : Int) * -1) * (-k) by grind, Int.mul_fdiv_cancel_left _ (by omega), show -((g : Int) * -1 * -k) = (g : Int) * (-k) by grind, Int.mul_ediv_cancel_left _ (by omega)]
theorem ok_common {f : Addr} {fd : FuncData} (F : Fun K "common" "common" s_common f fd) (B : Bs mg) : FnOk P w K mg base CX0 1 f fd ["one", "other"] (spI K P_common) := by
  refine F.ok sc_common (fun vs H Q E h => spI_len h len_common) (fun cdv A outer s H vs Q E hr h => ?_)
  have hu65 := hu65_of hr
  refine ⟨_, (pss_cons (ps_while PassesOwn.never (pt_cmpR op_ne (pv 1) pe_int (by first | exact nomark _ | rfl)) (pss_one (ps_par (i := 0) (j := 1) rfl sc_common.nd rfl rfl (by decide) rfl rfl (pa_cons (pv 1) (pa_cons (pe_op op_mod (pv 0) (pv 1)) pa_nil)) (by rfl))))
      (pss_one (ps_ret (pv 0)))), body_ok h (fun ds μ Φ p => ?_)⟩
  (try dsimp only [cxOf, Cx.nox, Cx.wish, List.map_cons, List.map_nil])
  obtain ⟨a, b, rfl, q⟩ := p
  show AS K _ [some _, some _] _ _
  walk_at "go"
  refine s_while (fun m τ' μ' => ∃ l : Nat, Nat.gcd l m = Nat.gcd a b ∧ μ' = μ ∧ τ' = [some (.int (l : Int)), some (.int (m : Int))]) b ?_ ?_
  · exact ⟨a, rfl, rfl, rfl⟩
  · rintro m τ' μ' ⟨l, hg, rfl, rfl⟩
    walk_at "go"
    split
    · rename_i hm
      have hm0 : 0 < m := by
        have : ¬ ((m : Int) = 0) := by simpa using hm
        omega
      walk_at "go"
      refine ⟨l % m, Nat.mod_lt _ hm0, m, by rw [gcd_turn' hm0]; exact hg, ?_⟩
      simp
    · rename_i hm
      have hm0 : m = 0 := by
        have : ((m : Int) = 0) := by simpa using hm
        omega
      subst hm0
      rw [Nat.gcd_zero_right] at hg
      subst hg
      walk_at "go"
      exact q
theorem ok_frac {f : Addr} {fd : FuncData} (F : FunD K "frac" "frac" (defArgs s_frac) (defBody s_frac) (defScope s_frac) [.int 1] [] f fd) (B : Bs mg) {C_NoFraction : Addr} (E_NoFraction : Exc0 K mg "NoFraction" C_NoFraction) (G_common : Def P w K mg base "common" ["one", "other"] 1 (spI K P_common)) : FnOk P w K mg base (L2.CX P w) 2 f fd ["top", "bottom"] (spX K (xn mg) P_frac) := by
  refine F.ok (CX := L2.CX P w) sc_frac (fun vs H Q E h => spX_len h len_frac) (fun cdv A outer s H vs Q E hr h => ?_)
  have hu65 := hu65_of hr
  refine ⟨_, (pss_cons (L2H.ps_try_asX (i := 3) rfl rfl sc_frac.nd rfl rfl ⟨by rfl, by decide, Or.inr ⟨B.b_ZeroDivisionError, rfl, by decide⟩⟩ (fun hd => L2H.passesAt_of rfl hd) (takes_of rfl rfl rfl rfl) (fun W pn xe tk po => (pss_one (ps_set (i := 2) sc_frac.nd rfl (by first | exact Or.inl rfl | exact Or.inr rfl) (pe_fdivZ rfl tk (pv 1) (pe_callB call_abs (by rfl) B.b_abs (by decide +kernel) (pa_cons (pv 1) pa_nil)))))) (fun a oe cls d pn hz hf tk hot => (pss_one (L2H.ps_raiseHE (K := K) (i := 3) (a1 := a) (oe1 := oe) rfl List.mem_cons_self hot hz.1 rfl (by first | exact Or.inl rfl | exact Or.inr (Or.inl rfl)) tk (pmk_e05 E_NoFraction (by rfl))))))
      (pss_cons (ps_set (i := 4) sc_frac.nd rfl (by first | exact Or.inl rfl | exact Or.inr rfl) (pe_op op_mulW (pe_def G_common (hr.mono (by decide)) (by rfl) (pa_cons (pe_callB call_abs (by rfl) B.b_abs (by decide +kernel) (pa_cons (pv 0) pa_nil)) (pa_cons (pe_callB call_abs (by rfl) B.b_abs (by decide +kernel) (pa_cons (pv 1) pa_nil)) pa_nil))) (pv 2)))
      (pss_one (ps_ret (pe_tup (pa_cons (pe_op op_fdivX (pv 0) (pv 4)) (pa_cons (pe_op op_fdivX (pv 1) (pv 4)) pa_nil))))))), body_okX h (fun ds μ Φ Ξ p => ?_)⟩
  (try dsimp only [cxOf, Cx.nox, Cx.wish, List.map_cons, List.map_nil])
  obtain ⟨x, y, rfl, sy, q, qx⟩ := p
  show AS K _ [some _, some _, none, none, none] _ _
  refine s_seq ?_
  refine s_tryAsX (c := .type "ZeroDivisionError") (i := 3) (tb := fun W => tAsg (tFdivZ W (tVar 1) (tCB (fun xs H Q => ∃ i, xs = [V.int i] ∧ Q (V.int (if i < 0 then -i else i)) H) (tCons (tVar 1) tNil))) (gName 2))
    (tu := fun a cls d _ σ H => L2H.RaisesK K cls ∧ σ[3]? = some (some (V.ref a)) ∧ L2H.offW 3 (fun cls d x H => E cls d H) (Value.ref C_NoFraction) none σ H)
    (fun x => if x = "ZeroDivisionError" then some (.type "ZeroDivisionError") else none) (fun _ => true) (fun z cls hz => ?_) fun W => ?_
  · split at hz
    · cases hz
      exact exm_zde
    · cases hz
  refine s_asgX (a_fdivZ (by show (if ("ZeroDivisionError" : Str) = "ZeroDivisionError" then (some (Value.type "ZeroDivisionError") : Option Value) else none) = some (.type "ZeroDivisionError"); exact if_pos rfl) ?_)
  walk_at "go"
  have cd : ∀ i : Int, ∀ j : Int, j ≠ 0 → j.natAbs ≤ y.natAbs → CDivX i j := fun i j h0 h1 => ⟨h0, by
    have : y.natAbs < 2 ^ 5000 := sy
    have h2 : j.natAbs < 2 ^ 5000 := by omega
    have := (Nat.log2_lt (show j.natAbs ≠ 0 by omega)).mpr h2
    omega⟩
  refine ⟨y, _, rfl, rfl, fun hj => ⟨cd _ _ hj (by rw [absn]; omega), ?_⟩, fun hj dx => .inl ⟨rfl, fun a cls hc => ?_⟩⟩
  · rw [absn] at hj
    have hy : y ≠ 0 := by omega
    rw [absn]
    obtain ⟨sg, hsg, hs1⟩ : ∃ sg : Int, y.fdiv (y.natAbs : Int) = sg ∧ ((sg = 1 ∧ 0 < y) ∨ (sg = -1 ∧ y < 0)) := by
      rcases Int.lt_or_gt_of_ne hy with h | h
      · refine ⟨-1, ?_, .inr ⟨rfl, h⟩⟩
        rw [show ((y.natAbs : Nat) : Int) = -y by omega]
        have := Int.mul_fdiv_cancel_left (-1) (show -y ≠ 0 by omega)
        rwa [show -y * -1 = y by omega] at this
      · refine ⟨1, ?_, .inl ⟨rfl, h⟩⟩
        rw [show ((y.natAbs : Nat) : Int) = y by omega, Int.fdiv_self hy]
    rw [hsg]
    walk_at "go"
    refine ⟨x.natAbs, y.natAbs, by rw [absn, absn], ?_⟩
    obtain ⟨g, hg⟩ : ∃ g, g = Nat.gcd x.natAbs y.natAbs := ⟨_, rfl⟩
    have gx : g ∣ x.natAbs := by rw [hg]; exact Nat.gcd_dvd_left _ _
    have gy : g ∣ y.natAbs := by rw [hg]; exact Nat.gcd_dvd_right _ _
    have gle : g ≤ y.natAbs := Nat.le_of_dvd (by omega) gy
    have g0 : 0 < g := Nat.pos_of_dvd_of_pos gy (by omega)
    have fT := low_fdiv (x := x) g0 gx hs1
    have fB := low_fdiv (x := y) g0 gy hs1
    have hm1 : ((g : Int) * sg).natAbs = g := by rcases hs1 with ⟨h, _⟩ | ⟨h, _⟩ <;> rw [h] <;> omega
    have hm0 : (g : Int) * sg ≠ 0 := by intro z; rw [z] at hm1; simp at hm1; omega
    have mul : CMulW (g : Int) sg := mulw_of (a := 5000) (b := 1) (by have : y.natAbs < 2 ^ 5000 := sy; show (g : Int).natAbs < 2 ^ 5000; omega) (sz_1 (by rcases hs1 with ⟨h, _⟩ | ⟨h, _⟩ <;> simp [h])) (by decide)
    have dT := cd x _ hm0 (by omega)
    have dB := cd y _ hm0 (by omega)
    rw [← hg]
    walk_at "go"
    have r := q hy
    unfold lowT lowB at r
    rw [← hg, ← fT, ← fB] at r
    exact r
  · have hy : y = 0 := by rw [absn] at hj; omega
    split at hc
    · cases hc
      exact s_raiseE0 raisesK_zde rfl (xn_at E_NoFraction.mg) (qx hy)
    · cases hc
open Tch Fr2
theorem sz_psd (a b c : Pl) : Sz 1 (psd a b c) := sz_sgn _
local macro_rules | `(tactic| walk_at "sz") => `(tactic| with_reducible exact sz_sgn _)
local macro_rules | `(tactic| walk_at "sz") => `(tactic| with_reducible exact sz_psd _ _ _)
def P_sign_of : PT3 := fun ds μ Φ => ∃ n, ds = [.int n] ∧ Φ (.int (sgn n)) μ
theorem len_sign_of (ds : List D) (μ : M) (Φ : D → M → Prop) (h : P_sign_of ds μ Φ) : ds.length = 1 := by
  obtain ⟨_, rfl, _⟩ := h
  rfl
def P_less : PT3 := fun ds μ Φ => ∃ p1 p2 q1 q2, ds = [pt p1 p2, pt q1 q2] ∧ Sz 2000 p1 ∧ Sz 2000 p2 ∧ Sz 2000 q1 ∧ Sz 2000 q2 ∧ Φ (pt (p1 * q2 - q1 * p2) (p2 * q2)) μ
theorem len_less (ds : List D) (μ : M) (Φ : D → M → Prop) (h : P_less ds μ Φ) : ds.length = 2 := by
  obtain ⟨_, _, _, _, rfl, _⟩ := h
  rfl
theorem use_less {μ : M} {Φ : D → M → Prop} {p1 p2 q1 q2 : Int} (s1 : Sz 2000 p1) (s2 : Sz 2000 p2) (s3 : Sz 2000 q1) (s4 : Sz 2000 q2) (q : Φ (pt (p1 * q2 - q1 * p2) (p2 * q2)) μ) : P_less [pt p1 p2, pt q1 q2] μ Φ := ⟨p1, p2, q1, q2, rfl, s1, s2, s3, s4, q⟩
def P_place_side : PT3 := fun ds μ Φ => ∃ a b c : Pl, ds = [encP a, encP b, encP c] ∧ GoodP a ∧ GoodP b ∧ GoodP c ∧ Φ (.int (psd a b c)) μ
theorem len_place_side (ds : List D) (μ : M) (Φ : D → M → Prop) (h : P_place_side ds μ Φ) : ds.length = 3 := by
  obtain ⟨_, _, _, rfl, _⟩ := h
  rfl
theorem use_place_side {μ : M} {Φ : D → M → Prop} {a b c : Pl} (ha : GoodP a) (hb : GoodP b) (hc : GoodP c) (q : Φ (.int (psd a b c)) μ) : P_place_side [encP a, encP b, encP c] μ Φ := ⟨a, b, c, rfl, ha, hb, hc, q⟩
def P_is_least : PT3 := fun ds μ Φ => ∃ p q : Fq, ds = [encF p, encF q] ∧ Good p ∧ Good q ∧ Φ (.bl (lst p q)) μ
theorem len_is_least (ds : List D) (μ : M) (Φ : D → M → Prop) (h : P_is_least ds μ Φ) : ds.length = 2 := by
  obtain ⟨_, _, rfl, _⟩ := h
  rfl
theorem use_is_least {μ : M} {Φ : D → M → Prop} {p q : Fq} (hp : Good p) (hq : Good q) (k : Φ (.bl (lst p q)) μ) : P_is_least [encF p, encF q] μ Φ := ⟨p, q, rfl, hp, hq, k⟩
def P_overlap : PT3 := fun ds μ Φ => ∃ a b c d : Fq, ds = [encF a, encF b, encF c, encF d] ∧ Good a ∧ Good b ∧ Good c ∧ Good d ∧ Φ (.bl (ovl a b c d)) μ
theorem len_overlap (ds : List D) (μ : M) (Φ : D → M → Prop) (h : P_overlap ds μ Φ) : ds.length = 4 := by
  obtain ⟨_, _, _, _, rfl, _⟩ := h
  rfl
theorem use_overlap {μ : M} {Φ : D → M → Prop} {a b c d : Fq} (ha : Good a) (hb : Good b) (hc : Good c) (hd : Good d) (k : Φ (.bl (ovl a b c d)) μ) : P_overlap [encF a, encF b, encF c, encF d] μ Φ := ⟨a, b, c, d, rfl, ha, hb, hc, hd, k⟩
def P_touch : PT3 := fun ds μ Φ => ∃ a b c d : Pl, ds = [encP a, encP b, encP c, encP d] ∧ GoodP a ∧ GoodP b ∧ GoodP c ∧ GoodP d ∧ Φ (.bl (tch a b c d)) μ
theorem len_touch (ds : List D) (μ : M) (Φ : D → M → Prop) (h : P_touch ds μ Φ) : ds.length = 4 := by
  obtain ⟨_, _, _, _, rfl, _⟩ := h
  rfl
theorem use_touch {μ : M} {Φ : D → M → Prop} {a b c d : Pl} (ha : GoodP a) (hb : GoodP b) (hc : GoodP c) (hd : GoodP d) (k : Φ (.bl (tch a b c d)) μ) : P_touch [encP a, encP b, encP c, encP d] μ Φ := ⟨a, b, c, d, rfl, ha, hb, hc, hd, k⟩
theorem ok_sign_of {f : Addr} {fd : FuncData} (F : Fun K "sign_of" "sign_of" s_sign_of f fd) (B : Bs mg) : FnOk P w K mg base CX0 1 f fd ["number"] (spI K P_sign_of) := by
  refine F.ok sc_sign_of (fun vs H Q E h => spI_len h len_sign_of) (fun cdv A outer s H vs Q E hr h => ?_)
  have hu65 := hu65_of hr
  refine ⟨_, (pss_one (ps_ret (pe_op op_sub (pe_callTy call_int1 (by rfl) B.b_int (by decide +kernel) (pa_cons (pe_cmpR op_gt (pv 0) pe_int (by first | exact nomark _ | rfl)) pa_nil)) (pe_callTy call_int1 (by rfl) B.b_int (by decide +kernel) (pa_cons (pe_cmpR op_lt (pv 0) pe_int (by first | exact nomark _ | rfl)) pa_nil))))), body_ok h (fun ds μ Φ p => ?_)⟩
  (try dsimp only [cxOf, Cx.nox, Cx.wish, List.map_cons, List.map_nil])
  obtain ⟨n, rfl, q⟩ := p
  show AS K _ [some _] _ _
  walk_at "go"
  refine cast_int ?_ q
  unfold sgn
  by_cases h1 : 0 < n <;> by_cases h2 : n < 0 <;> simp [h1, h2] <;> omega
theorem ok_less {f : Addr} {fd : FuncData} (F : Fun K "less" "less" s_less f fd) (B : Bs mg) : FnOk P w K mg base CX0 1 f fd ["one", "other"] (spI K P_less) := by
  refine F.ok sc_less (fun vs H Q E h => spI_len h len_less) (fun cdv A outer s H vs Q E hr h => ?_)
  have hu65 := hu65_of hr
  refine ⟨_, (pss_one (ps_ret (pe_tup (pa_cons (pe_op op_sub (pe_op op_mulW (pe_ix (ix_seqK (K := K) rfl) (pv 0) pe_int (fun _ _ => rfl)) (pe_ix (ix_seqK (K := K) rfl) (pv 1) pe_int (fun _ _ => rfl))) (pe_op op_mulW (pe_ix (ix_seqK (K := K) rfl) (pv 1) pe_int (fun _ _ => rfl)) (pe_ix (ix_seqK (K := K) rfl) (pv 0) pe_int (fun _ _ => rfl)))) (pa_cons (pe_op op_mulW (pe_ix (ix_seqK (K := K) rfl) (pv 0) pe_int (fun _ _ => rfl)) (pe_ix (ix_seqK (K := K) rfl) (pv 1) pe_int (fun _ _ => rfl))) pa_nil))))), body_ok h (fun ds μ Φ p => ?_)⟩
  (try dsimp only [cxOf, Cx.nox, Cx.wish, List.map_cons, List.map_nil])
  obtain ⟨p1, p2, q1, q2, rfl, s1, s2, s3, s4, q⟩ := p
  show AS K _ [some _, some _] _ _
  walk_at "go"
  exact q
theorem ok_place_side {f : Addr} {fd : FuncData} (F : Fun K "place_side" "place_side" s_place_side f fd) (B : Bs mg) (G_less : Def P w K mg base "less" ["one", "other"] 1 (spI K P_less)) (G_sign_of : Def P w K mg base "sign_of" ["number"] 1 (spI K P_sign_of)) : FnOk P w K mg base CX0 2 f fd ["a", "b", "c"] (spI K P_place_side) := by
  refine F.ok sc_place_side (fun vs H Q E h => spI_len h len_place_side) (fun cdv A outer s H vs Q E hr h => ?_)
  have hu65 := hu65_of hr
  refine ⟨_, (pss_cons (ps_par (i := 3) (j := 4) rfl sc_place_side.nd rfl rfl (by decide) rfl rfl (pa_cons (pe_def G_less (hr.mono (by decide)) (by rfl) (pa_cons (pe_ix (ix_seqK (K := K) rfl) (pv 1) pe_int (fun _ _ => rfl)) (pa_cons (pe_ix (ix_seqK (K := K) rfl) (pv 0) pe_int (fun _ _ => rfl)) pa_nil))) (pa_cons (pe_def G_less (hr.mono (by decide)) (by rfl) (pa_cons (pe_ix (ix_seqK (K := K) rfl) (pv 1) pe_int (fun _ _ => rfl)) (pa_cons (pe_ix (ix_seqK (K := K) rfl) (pv 0) pe_int (fun _ _ => rfl)) pa_nil))) pa_nil)) (by rfl))
      (pss_cons (ps_par (i := 5) (j := 6) rfl sc_place_side.nd rfl rfl (by decide) rfl rfl (pa_cons (pe_def G_less (hr.mono (by decide)) (by rfl) (pa_cons (pe_ix (ix_seqK (K := K) rfl) (pv 2) pe_int (fun _ _ => rfl)) (pa_cons (pe_ix (ix_seqK (K := K) rfl) (pv 0) pe_int (fun _ _ => rfl)) pa_nil))) (pa_cons (pe_def G_less (hr.mono (by decide)) (by rfl) (pa_cons (pe_ix (ix_seqK (K := K) rfl) (pv 2) pe_int (fun _ _ => rfl)) (pa_cons (pe_ix (ix_seqK (K := K) rfl) (pv 0) pe_int (fun _ _ => rfl)) pa_nil))) pa_nil)) (by rfl))
      (pss_cons (ps_set (i := 7) sc_place_side.nd rfl (by first | exact Or.inl rfl | exact Or.inr rfl) (pe_op op_mulW (pe_op op_mulW (pe_op op_mulW (pe_ix (ix_seqK (K := K) rfl) (pv 3) pe_int (fun _ _ => rfl)) (pe_ix (ix_seqK (K := K) rfl) (pv 6) pe_int (fun _ _ => rfl))) (pe_ix (ix_seqK (K := K) rfl) (pv 4) pe_int (fun _ _ => rfl))) (pe_ix (ix_seqK (K := K) rfl) (pv 5) pe_int (fun _ _ => rfl))))
      (pss_one (ps_ret (pe_def G_sign_of (hr.mono (by decide)) (by rfl) (pa_cons (pe_op op_sub (pv 7) (pe_op op_mulW (pe_op op_mulW (pe_op op_mulW (pe_ix (ix_seqK (K := K) rfl) (pv 4) pe_int (fun _ _ => rfl)) (pe_ix (ix_seqK (K := K) rfl) (pv 5) pe_int (fun _ _ => rfl))) (pe_ix (ix_seqK (K := K) rfl) (pv 3) pe_int (fun _ _ => rfl))) (pe_ix (ix_seqK (K := K) rfl) (pv 6) pe_int (fun _ _ => rfl)))) pa_nil))))))), body_ok h (fun ds μ Φ p => ?_)⟩
  (try dsimp only [cxOf, Cx.nox, Cx.wish, List.map_cons, List.map_nil])
  obtain ⟨a, b, c, rfl, ⟨⟨_, a1, a2⟩, ⟨_, a3, a4⟩⟩, ⟨⟨_, b1, b2⟩, ⟨_, b3, b4⟩⟩, ⟨⟨_, c1, c2⟩, ⟨_, c3, c4⟩⟩, q⟩ := p
  show AS K _ [some _, some _, some _, none, none, none, none, none] _ _
  walk_at "go"
  refine use_less b1 b2 a1 a2 ?_
  walk_at "go"
  refine use_less b3 b4 a3 a4 ?_
  walk_at "go"
  refine use_less c1 c2 a1 a2 ?_
  walk_at "go"
  refine use_less c3 c4 a3 a4 ?_
  walk_at "go"
  exact ⟨_, rfl, q⟩
theorem ok_is_least {f : Addr} {fd : FuncData} (F : Fun K "is_least" "is_least" s_is_least f fd) (B : Bs mg) : FnOk P w K mg base CX0 1 f fd ["one", "other"] (spI K P_is_least) := by
  refine F.ok sc_is_least (fun vs H Q E h => spI_len h len_is_least) (fun cdv A outer s H vs Q E hr h => ?_)
  have hu65 := hu65_of hr
  refine ⟨_, (pss_one (ps_ret (pe_cmpR op_le (pe_op op_mulW (pe_ix (ix_seqK (K := K) rfl) (pv 0) pe_int (fun _ _ => rfl)) (pe_ix (ix_seqK (K := K) rfl) (pv 1) pe_int (fun _ _ => rfl))) (pe_op op_mulW (pe_ix (ix_seqK (K := K) rfl) (pv 1) pe_int (fun _ _ => rfl)) (pe_ix (ix_seqK (K := K) rfl) (pv 0) pe_int (fun _ _ => rfl))) (by first | exact nomark _ | rfl)))), body_ok h (fun ds μ Φ p => ?_)⟩
  (try dsimp only [cxOf, Cx.nox, Cx.wish, List.map_cons, List.map_nil])
  obtain ⟨a, b, rfl, ⟨_, a1, a2⟩, ⟨_, b1, b2⟩, q⟩ := p
  show AS K _ [some _, some _] _ _
  walk_at "go"
  exact q
theorem ok_overlap {f : Addr} {fd : FuncData} (F : Fun K "overlap" "overlap" s_overlap f fd) (B : Bs mg) (G_is_least : Def P w K mg base "is_least" ["one", "other"] 1 (spI K P_is_least)) : FnOk P w K mg base CX0 2 f fd ["a", "b", "c", "d"] (spI K P_overlap) := by
  refine F.ok sc_overlap (fun vs H Q E h => spI_len h len_overlap) (fun cdv A outer s H vs Q E hr h => ?_)
  have hu65 := hu65_of hr
  refine ⟨_, (pss_cons (ps_asg (pe_ifExp (pt_val (pe_def G_is_least (hr.mono (by decide)) (by rfl) (pa_cons (pv 0) (pa_cons (pv 1) pa_nil)))) (pe_tup (pa_cons (pv 0) (pa_cons (pv 1) pa_nil))) (pe_tup (pa_cons (pv 1) (pa_cons (pv 0) pa_nil)))) (pg_tup (by rfl) (pgs_cons (pg_name (i := 4) sc_overlap.nd rfl (by first | exact Or.inl rfl | exact Or.inr rfl)) (pgs_cons (pg_name (i := 5) sc_overlap.nd rfl (by first | exact Or.inl rfl | exact Or.inr rfl)) pgs_nil))))
      (pss_cons (ps_asg (pe_ifExp (pt_val (pe_def G_is_least (hr.mono (by decide)) (by rfl) (pa_cons (pv 2) (pa_cons (pv 3) pa_nil)))) (pe_tup (pa_cons (pv 2) (pa_cons (pv 3) pa_nil))) (pe_tup (pa_cons (pv 3) (pa_cons (pv 2) pa_nil)))) (pg_tup (by rfl) (pgs_cons (pg_name (i := 6) sc_overlap.nd rfl (by first | exact Or.inl rfl | exact Or.inr rfl)) (pgs_cons (pg_name (i := 7) sc_overlap.nd rfl (by first | exact Or.inl rfl | exact Or.inr rfl)) pgs_nil))))
      (pss_one (ps_ret (pe_and (pe_def G_is_least (hr.mono (by decide)) (by rfl) (pa_cons (pv 4) (pa_cons (pv 7) pa_nil))) (pe_one (pe_def G_is_least (hr.mono (by decide)) (by rfl) (pa_cons (pv 6) (pa_cons (pv 5) pa_nil))))))))), body_ok h (fun ds μ Φ p => ?_)⟩
  (try dsimp only [cxOf, Cx.nox, Cx.wish, List.map_cons, List.map_nil])
  obtain ⟨a, b, c, d, rfl, ha, hb, hc, hd, q⟩ := p
  show AS K _ [some _, some _, some _, some _, none, none, none, none] _ _
  walk_at "go"
  refine use_is_least ha hb ?_
  walk_at "go"
  refine ite_b (fun e1 => ?_) (fun e1 => ?_)
  · walk_at "go"
    refine use_is_least hc hd ?_
    walk_at "go"
    refine ite_b (fun e2 => ?_) (fun e2 => ?_)
    · walk_at "go"
      refine use_is_least ha hd ?_
      walk_at "go"
      refine ite_b (fun e3 => ?_) (fun e3 => ?_)
      · walk_at "go"
        refine use_is_least hc hb ?_
        exact cast_bl (by unfold ovl; simp only [e1, e2, e3, if_true, Bool.true_and]) q
      · exact cast_bl (by unfold ovl; simp only [e1, e2, e3, if_true, Bool.false_and]) q
    · walk_at "go"
      refine use_is_least ha hc ?_
      walk_at "go"
      refine ite_b (fun e3 => ?_) (fun e3 => ?_)
      · walk_at "go"
        refine use_is_least hd hb ?_
        exact cast_bl (by unfold ovl; simp only [e1, e2, e3, if_true, Bool.true_and, Bool.false_eq_true, if_false]) q
      · exact cast_bl (by unfold ovl; simp only [e1, e2, e3, if_true, Bool.false_and, Bool.false_eq_true, if_false]) q
  · walk_at "go"
    refine use_is_least hc hd ?_
    walk_at "go"
    refine ite_b (fun e2 => ?_) (fun e2 => ?_)
    · walk_at "go"
      refine use_is_least hb hd ?_
      walk_at "go"
      refine ite_b (fun e3 => ?_) (fun e3 => ?_)
      · walk_at "go"
        refine use_is_least hc ha ?_
        exact cast_bl (by unfold ovl; simp only [e1, e2, e3, if_true, Bool.true_and, Bool.false_eq_true, if_false]) q
      · exact cast_bl (by unfold ovl; simp only [e1, e2, e3, if_true, Bool.false_and, Bool.false_eq_true, if_false]) q
    · walk_at "go"
      refine use_is_least hb hc ?_
      walk_at "go"
      refine ite_b (fun e3 => ?_) (fun e3 => ?_)
      · walk_at "go"
        refine use_is_least hd ha ?_
        exact cast_bl (by unfold ovl; simp only [e1, e2, e3, if_true, Bool.true_and, Bool.false_eq_true, if_false]) q
      · exact cast_bl (by unfold ovl; simp only [e1, e2, e3, if_true, Bool.false_and, Bool.false_eq_true, if_false]) q
theorem ok_touch {f : Addr} {fd : FuncData} (F : Fun K "touch" "touch" s_touch f fd) (B : Bs mg) (G_overlap : Def P w K mg base "overlap" ["a", "b", "c", "d"] 2 (spI K P_overlap)) (G_place_side : Def P w K mg base "place_side" ["a", "b", "c"] 2 (spI K P_place_side)) : FnOk P w K mg base CX0 3 f fd ["a", "b", "c", "d"] (spI K P_touch) := by
  refine F.ok sc_touch (fun vs H Q E h => spI_len h len_touch) (fun cdv A outer s H vs Q E hr h => ?_)
  have hu65 := hu65_of hr
  refine ⟨_, (pss_cons (ps_if (PW.pt (pw_or (pt_not (pt_val (pe_def G_overlap (hr.mono (by decide)) (by rfl) (pa_cons (pe_ix (ix_seqK (K := K) rfl) (pv 0) pe_int (fun _ _ => rfl)) (pa_cons (pe_ix (ix_seqK (K := K) rfl) (pv 1) pe_int (fun _ _ => rfl)) (pa_cons (pe_ix (ix_seqK (K := K) rfl) (pv 2) pe_int (fun _ _ => rfl)) (pa_cons (pe_ix (ix_seqK (K := K) rfl) (pv 3) pe_int (fun _ _ => rfl)) pa_nil))))))) (pw_or1 (pt_not (pt_val (pe_def G_overlap (hr.mono (by decide)) (by rfl) (pa_cons (pe_ix (ix_seqK (K := K) rfl) (pv 0) pe_int (fun _ _ => rfl)) (pa_cons (pe_ix (ix_seqK (K := K) rfl) (pv 1) pe_int (fun _ _ => rfl)) (pa_cons (pe_ix (ix_seqK (K := K) rfl) (pv 2) pe_int (fun _ _ => rfl)) (pa_cons (pe_ix (ix_seqK (K := K) rfl) (pv 3) pe_int (fun _ _ => rfl)) pa_nil)))))))))) (pss_one (ps_ret pe_bl)) pss_nil)
      (pss_cons (ps_if (pt_cmpR op_gt (pe_op op_mulW (pe_def G_place_side (hr.mono (by decide)) (by rfl) (pa_cons (pv 0) (pa_cons (pv 1) (pa_cons (pv 2) pa_nil)))) (pe_def G_place_side (hr.mono (by decide)) (by rfl) (pa_cons (pv 0) (pa_cons (pv 1) (pa_cons (pv 3) pa_nil))))) pe_int (by first | exact nomark _ | rfl)) (pss_one (ps_ret pe_bl)) pss_nil)
      (pss_one (ps_ret (pe_cmpR op_le (pe_op op_mulW (pe_def G_place_side (hr.mono (by decide)) (by rfl) (pa_cons (pv 2) (pa_cons (pv 3) (pa_cons (pv 0) pa_nil)))) (pe_def G_place_side (hr.mono (by decide)) (by rfl) (pa_cons (pv 2) (pa_cons (pv 3) (pa_cons (pv 1) pa_nil))))) pe_int (by first | exact nomark _ | rfl)))))), body_ok h (fun ds μ Φ p => ?_)⟩
  (try dsimp only [cxOf, Cx.nox, Cx.wish, List.map_cons, List.map_nil])
  obtain ⟨a, b, c, d, rfl, ha, hb, hc, hd, q⟩ := p
  show AS K _ [some _, some _, some _, some _] _ _
  walk_at "go"
  refine use_overlap ha.x hb.x hc.x hd.x ?_
  walk_at "go"
  cases e1 : ovl a.1 b.1 c.1 d.1
  · walk_at "go"
    exact cast_bl (by unfold tch; simp only [e1, Bool.false_and]) q
  · walk_at "go"
    refine use_overlap ha.y hb.y hc.y hd.y ?_
    walk_at "go"
    cases e2 : ovl a.2 b.2 c.2 d.2
    · walk_at "go"
      exact cast_bl (by unfold tch; simp only [e1, e2, Bool.false_and, Bool.true_and]) q
    · walk_at "go"
      refine use_place_side ha hb hc ?_
      walk_at "go"
      refine use_place_side ha hb hd ?_
      walk_at "go"
      refine ite_d (fun e3 => ?_) (fun e3 => ?_)
      · walk_at "go"
        exact cast_bl (by unfold tch; simp only [e1, e2, decide_eq_true e3, Bool.not_true, Bool.false_and, Bool.true_and]) q
      · walk_at "go"
        refine use_place_side hc hd ha ?_
        walk_at "go"
        refine use_place_side hc hd hb ?_
        walk_at "go"
        exact cast_bl (by unfold tch; simp only [e1, e2, decide_eq_false e3, Bool.not_false, Bool.true_and]) q
def Lo (x y : Int) (p : Fq) : Prop := ∃ k : Int, 0 < k ∧ p.1 * k = x ∧ p.2 * k = y
def P_l_low : PT3 := fun ds μ Φ => ∃ (x y : Int) (n : Nat), ds = [.int x, .int y] ∧ 0 < y ∧ Sz n x ∧ Sz n y ∧ n ≤ 8000 ∧ ∀ p : Fq, Lo x y p → Gd n p → Φ (encF p) μ
theorem len_l_low (ds : List D) (μ : M) (Φ : D → M → Prop) (h : P_l_low ds μ Φ) : ds.length = 2 := by
  obtain ⟨_, _, _, rfl, _⟩ := h
  rfl
theorem use_low (n : Nat) {μ : M} {Φ : D → M → Prop} {x y : Int} (h0 : 0 < y) (s1 : Sz n x) (s2 : Sz n y) (hn : n ≤ 8000) (q : ∀ p : Fq, Lo x y p → Gd n p → Φ (encF p) μ) : P_l_low [.int x, .int y] μ Φ := ⟨x, y, n, rfl, h0, s1, s2, hn, q⟩
theorem ok_l_low {f : Addr} {fd : FuncData} (F : Fun K "_law_low" "_law_low" s_l_low f fd) (B : Bs mg) : FnOk P w K mg base CX0 1 f fd ["_law_over", "_law_under"] (spI K P_l_low) := by
  refine F.ok sc_l_low (fun vs H Q E h => spI_len h len_l_low) (fun cdv A outer s H vs Q E hr h => ?_)
  have hu65 := hu65_of hr
  refine ⟨_, (pss_cons (ps_par (i := 2) (j := 3) rfl sc_l_low.nd rfl rfl (by decide) rfl rfl (pa_cons (pe_callB call_abs (by rfl) B.b_abs (by decide +kernel) (pa_cons (pv 0) pa_nil)) (pa_cons (pv 1) pa_nil)) (by rfl))
      (pss_cons (ps_while PassesOwn.never (pt_cmpR op_gt (pv 2) pe_int (by first | exact nomark _ | rfl)) (pss_one (ps_par (i := 2) (j := 3) rfl sc_l_low.nd rfl rfl (by decide) rfl rfl (pa_cons (pe_op op_mod (pv 3) (pv 2)) (pa_cons (pv 2) pa_nil)) (by rfl))))
      (pss_one (ps_ret (pe_tup (pa_cons (pe_op op_fdivW (pv 0) (pv 3)) (pa_cons (pe_op op_fdivW (pv 1) (pv 3)) pa_nil))))))), body_ok h (fun ds μ Φ p => ?_)⟩
  (try dsimp only [cxOf, Cx.nox, Cx.wish, List.map_cons, List.map_nil])
  obtain ⟨x, y, n, rfl, hy, s1, s2, hn, q⟩ := p
  show AS K _ [some _, some _, none, none] _ _
  walk_at "go"
  refine s_while (fun m τ' μ' => ∃ l b : Nat, m = l ∧ 0 < b ∧ Nat.gcd l b = Nat.gcd x.natAbs y.natAbs ∧ μ' = μ ∧ τ' = [some (.int x), some (.int y), some (.int (l : Int)), some (.int (b : Int))]) x.natAbs ?_ ?_
  · refine ⟨x.natAbs, y.natAbs, rfl, by omega, rfl, rfl, ?_⟩
    show [some (D.int x), some (D.int y), some (D.int (if x < 0 then -x else x)), some (D.int y)] = _
    rw [absn, show ((y.natAbs : Nat) : Int) = y by omega]
  · rintro m τ' μ' ⟨l, b, rfl, hb, hg, rfl, rfl⟩
    walk_at "go"
    refine ite_d (fun hl => ?_) (fun hl => ?_)
    · walk_at "go"
      refine ⟨b % m, Nat.mod_lt _ (by omega), b % m, m, rfl, by omega, by rw [gcd_turn]; exact hg, ?_⟩
      simp
    · have e : m = 0 := by omega
      subst e
      rw [Nat.gcd_zero_left] at hg
      obtain ⟨g0, e1, e2, p2⟩ := div_fact (x := x) hy hg.symm
      have sb : Sz n (b : Int) := by
        have : Sz n y := s2
        have hd : b ∣ y.natAbs := by rw [hg]; exact Nat.gcd_dvd_right _ _
        have hle := Nat.le_of_dvd (by omega) hd
        unfold Sz at *
        omega
      have c1 : CDivW x (b : Int) := divw_of (by omega) sb (by omega)
      have c2 : CDivW y (b : Int) := c1
      have z1 := div_size g0 e1 s1
      have z2 := div_size g0 e2 s2
      walk_at "go"
      exact q (x / (b : Int), y / (b : Int)) ⟨b, by omega, e1, e2⟩ ⟨p2, z1, z2⟩
open Tch Fr2
def P_pieces_of : PT3 := fun ds μ Φ => ∃ l : Ln, ds = [encL l] ∧ ∀ p, μ p = none → Φ (.ref p) (μ.set p (.lst ((pcs l).map encC)))
theorem len_pieces_of (ds : List D) (μ : M) (Φ : D → M → Prop) (h : P_pieces_of ds μ Φ) : ds.length = 1 := by
  obtain ⟨_, rfl, _⟩ := h
  rfl
theorem use_pieces {μ : M} {Φ : D → M → Prop} {l : Ln} (q : ∀ p, μ p = none → Φ (.ref p) (μ.set p (.lst ((pcs l).map encC)))) : P_pieces_of [encL l] μ Φ := ⟨l, rfl, q⟩
structure LsOk (ls : List Ln) : Prop where
  n : ls.length ≤ 100
  l : ∀ l ∈ ls, l.length ≤ 1000 ∧ ∀ p ∈ l, GoodP p
abbrev encLs (ls : List Ln) : D := .tup (ls.map encL)
theorem size_of {n : Nat} (h : n ≤ 100000) : n < sizeLine := Nat.lt_of_le_of_lt h (by decide)
theorem mapget {α β : Type} {f : α → β} {l : List α} {i : Nat} {x : β} (h : (l.map f)[i]? = some x) : ∃ y, l[i]? = some y ∧ x = f y := by
  rw [List.getElem?_map] at h
  cases e : l[i]? with
  | none => rw [e] at h; cases h
  | some y => rw [e] at h; cases h; exact ⟨y, rfl, rfl⟩
theorem take_snoc {α : Type} {l : List α} {i : Nat} {x : α} (h : l[i]? = some x) : l.take (i + 1) = l.take i ++ [x] := by
  rw [List.take_add_one, h]; rfl
theorem mem_snoc {α : Type} {p : α → Prop} {l : List α} {i : Nat} {x : α} (h : l[i]? = some x) (k : ∀ y ∈ l.take i, p y) (hx : p x) : ∀ y ∈ l.take (i + 1), p y := by
  intro y hy
  rw [take_snoc h, List.mem_append] at hy
  rcases hy with hy | hy
  · exact k y hy
  · rw [List.mem_singleton.mp hy]; exact hx
theorem atl {ls : List Ln} {i : Nat} (h : i < ls.length) : atI (ls.map encL) (i : Int) = some (encL (ls.getD i [])) := by
  refine atI_nat ?_
  rw [List.getElem?_map, List.getElem?_eq_getElem h, List.getD_eq_getElem?_getD, List.getElem?_eq_getElem h]
  rfl
theorem getD_mem {ls : List Ln} {i : Nat} (h : i < ls.length) : ls.getD i [] ∈ ls := by
  rw [List.getD_eq_getElem?_getD, List.getElem?_eq_getElem h]
  exact List.getElem_mem h
/-- the first k of the i-th row -/
def part (ls : List Ln) (f : Ln → Ln → Bool) (i k : Nat) : List D := (((List.range k).map fun k => i + 1 + k).filter fun j => f (ls.getD i []) (ls.getD j [])).map fun (j : Nat) => pt (i : Int) (j : Int)
theorem part_succ (ls : List Ln) (f : Ln → Ln → Bool) (i k : Nat) : part ls f i (k + 1) = part ls f i k ++ (if f (ls.getD i []) (ls.getD (i + 1 + k) []) = true then [pt (i : Int) ((i + 1 + k : Nat) : Int)] else []) := by
  unfold part
  rw [List.range_succ, List.map_append, List.filter_append, List.map_append]
  congr 1
  simp only [List.map_cons, List.map_nil, List.filter_cons, List.filter_nil]
  split <;> rfl
theorem part_len (ls : List Ln) (f : Ln → Ln → Bool) (i k : Nat) : (part ls f i k).length ≤ k := by
  unfold part
  rw [List.length_map]
  refine Nat.le_trans (List.length_filter_le _ _) ?_
  rw [List.length_map, List.length_range]
  exact Nat.le_refl _
theorem part_all (ls : List Ln) (f : Ln → Ln → Bool) (i : Nat) : part ls f i (ls.length - (i + 1)) = row ls f i := rfl
theorem rows_small {ls : List Ln} (h : LsOk ls) (f : Ln → Ln → Bool) {k : Nat} (hk : k ≤ ls.length) : (rows ls f k).length ≤ 10000 := by
  have h1 := rows_len ls f k
  have h2 := h.n
  have h3 : k * ls.length ≤ 100 * 100 := Nat.mul_le_mul (by omega) h2
  omega
theorem ok_pieces_of {f : Addr} {fd : FuncData} (F : Fun K "pieces_of" "pieces_of" s_pieces_of f fd) (B : Bs mg) : FnOk P w K mg base CX0 1 f fd ["line"] (spI K P_pieces_of) := by
  refine F.ok sc_pieces_of (fun vs H Q E h => spI_len h len_pieces_of) (fun cdv A outer s H vs Q E hr h => ?_)
  have hu65 := hu65_of hr
  refine ⟨_, (pss_one (ps_ret (ZL.pe_listZip rfl (by rfl) B.b_list (by rfl) B.b_zip (pa_cons (pv 0) (pa_cons (pe_slice (sl_tupAK (K := K) rfl) (pv 0) (po_some pe_int) po_none) pa_nil))))), body_ok h (fun ds μ Φ p => ?_)⟩
  (try dsimp only [cxOf, Cx.nox, Cx.wish, List.map_cons, List.map_nil])
  obtain ⟨l, rfl, q⟩ := p
  show AS K _ [some _] _ _
  refine s_ret (a_listZip ?_)
  walk_at "go"
  intro p hp
  rw [cut1, pcs_zip]
  exact q p hp
open Swp
theorem use_frac {μ : M} {Φ : D → M → Prop} {Ξ : XW} {x y : Int} (hy : 0 < y) (sy : Sz 5000 y) (q : Φ (.tup [.int (lowT x y), .int (lowB x y)]) μ) : P_frac [.int x, .int y] μ Φ Ξ := ⟨x, y, rfl, sy, fun _ => q, fun h => by omega⟩
def P_measure_of : PT3 := fun ds μ Φ => ∃ ls : List Ln, ds = [encLs ls] ∧ LsQ ls ∧ ∀ m : Nat, MsOk m ls → Φ (.int (m : Int)) μ
theorem len_measure_of (ds : List D) (μ : M) (Φ : D → M → Prop) (h : P_measure_of ds μ Φ) : ds.length = 1 := by
  obtain ⟨_, rfl, _⟩ := h
  rfl
theorem use_measure {μ : M} {Φ : D → M → Prop} {ls : List Ln} (h : LsQ ls) (q : ∀ m : Nat, MsOk m ls → Φ (.int (m : Int)) μ) : P_measure_of [encLs ls] μ Φ := ⟨ls, rfl, h, q⟩
def P_sweep_rows : PT3 := fun ds μ Φ => ∃ ls : List Ln, ds = [encLs ls] ∧ LsQ ls ∧ ∀ (m : Nat) p, MsOk m ls → μ p = none → Φ (.ref p) (μ.set p (.lst ((evE m ls).map encEv)))
theorem len_sweep_rows (ds : List D) (μ : M) (Φ : D → M → Prop) (h : P_sweep_rows ds μ Φ) : ds.length = 1 := by
  obtain ⟨_, rfl, _⟩ := h
  rfl
theorem use_rows {μ : M} {Φ : D → M → Prop} {ls : List Ln} (h : LsQ ls) (q : ∀ (m : Nat) p, MsOk m ls → μ p = none → Φ (.ref p) (μ.set p (.lst ((evE m ls).map encEv)))) : P_sweep_rows [encLs ls] μ Φ := ⟨ls, rfl, h, q⟩
def P_swept : PT3 := fun ds μ Φ => ∃ ls : List Ln, ds = [encLs ls] ∧ LsQ ls ∧ Φ (.tup (rows ls lmeet ls.length)) μ
theorem len_swept (ds : List D) (μ : M) (Φ : D → M → Prop) (h : P_swept ds μ Φ) : ds.length = 1 := by
  obtain ⟨_, rfl, _⟩ := h
  rfl
theorem use_swept {μ : M} {Φ : D → M → Prop} {ls : List Ln} (h : LsQ ls) (q : Φ (.tup (rows ls lmeet ls.length)) μ) : P_swept [encLs ls] μ Φ := ⟨ls, rfl, h, q⟩
theorem ok_measure_of {f : Addr} {fd : FuncData} (F : Fun K "measure_of" "measure_of" s_measure_of f fd) (B : Bs mg) (G_frac : DefX P w K mg base "frac" ["top", "bottom"] 2 (spX K (xn mg) P_frac)) : FnOk P w K mg base CX0 4 f fd ["lines"] (spI K P_measure_of) := by
  refine F.ok sc_measure_of (fun vs H Q E h => spI_len h len_measure_of) (fun cdv A outer s H vs Q E hr h => ?_)
  have hu65 := hu65_of hr
  refine ⟨_, (pss_cons (ps_set (i := 1) sc_measure_of.nd rfl (by first | exact Or.inl rfl | exact Or.inr rfl) pe_int)
      (pss_cons (ps_for PassesOwn.never rfl (pi_tupK (K := K) rfl (pv 0)) (pg_name (i := 2) sc_measure_of.nd rfl (by first | exact Or.inl rfl | exact Or.inr rfl))
      (pss_one (ps_for PassesOwn.never rfl (pi_tupK (K := K) rfl (pv 2)) (pg_tup (by rfl) (pgs_cons (pg_tup (by rfl) (pgs_cons (pg_name (i := 3) sc_measure_of.nd rfl (by first | exact Or.inl rfl | exact Or.inr rfl)) (pgs_cons (pg_name (i := 4) sc_measure_of.nd rfl (by first | exact Or.inl rfl | exact Or.inr rfl)) pgs_nil))) (pgs_cons (pg_name (i := 5) sc_measure_of.nd rfl (by first | exact Or.inl rfl | exact Or.inr rfl)) pgs_nil)))
      (pss_one (ps_aug (i := 1) sc_measure_of.nd rfl (by first | exact Or.inl rfl | exact Or.inr rfl) (pe_ix (ix_seqK (K := K) rfl) (pe_defN G_frac (hr.mono (by decide)) (by rfl) (pa_cons (pv 1) (pa_cons (pv 4) pa_nil))) pe_int (fun _ _ => rfl)) ITT.ip_mulW)))))
      (pss_one (ps_ret (pv 1))))), body_ok h (fun ds μ Φ p => ?_)⟩
  (try dsimp only [cxOf, Cx.nox, Cx.wish, List.map_cons, List.map_nil])
  obtain ⟨ls, rfl, h, q⟩ := p
  show AS K _ [some _, none, none, none, none, none] _ _
  walk_at "go"
  refine s_for (ai_T ?_)
  walk_at "go"
  refine ⟨fun i τ' μ' => ∃ (m : Nat) (o3 o4 o5 o6 : Option D), MsOk m (ls.take i) ∧ μ' = μ ∧ τ' = [some (encLs ls), some (.int (m : Int)), o3, o4, o5, o6], ⟨1, _, _, _, _, ⟨by decide, by decide, by simp⟩, rfl, rfl⟩, ?_, ?_⟩
  · rintro i x τ' μ' hx ⟨m, o3, o4, o5, o6, hm, rfl, rfl⟩
    obtain ⟨l, hl, rfl⟩ := mapget hx
    have hlm := List.mem_of_getElem? hl
    walk_at "go"
    refine s_for (ai_T ?_)
    walk_at "go"
    refine ⟨fun j τ' μ2 => ∃ (m : Nat) (o4 o5 o6 : Option D), MsOk m (ls.take i) ∧ (∀ p ∈ l.take j, p.1.2 ∣ (m : Int)) ∧ μ2 = μ' ∧ τ' = [some (encLs ls), some (.int (m : Int)), some (encL l), o4, o5, o6], ⟨m, _, _, _, hm, by simp, rfl, rfl⟩, ?_, ?_⟩
    · rintro j y τ' μ2 hy ⟨m, o4, o5, o6, hm, hd, rfl, rfl⟩
      obtain ⟨pl, hp, rfl⟩ := mapget hy
      have hpm := List.mem_of_getElem? hp
      have gp := h.g _ hlm _ hpm
      have d12 := h.d _ hlm _ hpm
      walk_at "go"
      have sm : Sz 4 (m : Int) := by
        have := Nat.le_of_dvd (by decide) hm.dvd
        unfold Sz
        omega
      have bpos := gp.x.pos
      refine use_frac bpos (sz_mono gp.x.s2 (by decide)) ?_
      have sb : Sz 4 (lowB (m : Int) pl.1.2) := by
        have e := lcm_step hm.pos bpos
        have h2 := Nat.le_of_dvd (by decide) (lcm_12 hm.dvd d12)
        have h3 := lcm_pos hm.pos bpos
        unfold lowB
        generalize ((if pl.1.2 < 0 then -pl.1.2 else pl.1.2) / (Nat.gcd (m : Int).natAbs pl.1.2.natAbs : Nat)) = z at e ⊢
        have h4 : z.natAbs ≤ 12 := by
          have h5 : (m : Int).natAbs * z.natAbs = (Nat.lcm m pl.1.2.natAbs) := by rw [← Int.natAbs_mul, e]; rfl
          have h6 : z.natAbs ≤ (m : Int).natAbs * z.natAbs := Nat.le_mul_of_pos_left _ (by have := hm.pos; omega)
          omega
        unfold Sz
        omega
      walk_at "go"
      have e : (m : Int) * lowB (m : Int) pl.1.2 = ((Nat.lcm m pl.1.2.natAbs : Nat) : Int) := lcm_step hm.pos bpos
      rw [e]
      exact ⟨Nat.lcm m pl.1.2.natAbs, _, _, _, ⟨lcm_pos hm.pos bpos, lcm_12 hm.dvd d12, fun l' hl' p hp' => lcm_dvd1 (hm.all l' hl' p hp')⟩, mem_snoc hp (fun y hy => lcm_dvd1 (hd y hy)) lcm_dvd2, rfl, rfl⟩
    · rintro τ' μ2 ⟨m, o4, o5, o6, hm, hd, rfl, rfl⟩
      dsimp only [id]
      rw [List.length_map, List.take_length] at hd
      exact ⟨m, _, _, _, _, ⟨hm.pos, hm.dvd, mem_snoc hl hm.all hd⟩, rfl, rfl⟩
  · rintro τ' μ' ⟨m, o3, o4, o5, o6, hm, rfl, rfl⟩
    dsimp only [id]
    rw [List.length_map, List.take_length] at hm
    walk_at "go"
    exact q m hm
theorem enum_get {α : Type} {f : α → D} {l : List α} {i : Nat} {x : D} (h : (enumD 0 (l.map f))[i]? = some x) : ∃ y, l[i]? = some y ∧ x = .tup [.int (i : Int), f y] := by
  cases e : l[i]? with
  | none =>
    have hl := (List.getElem?_eq_some_iff.mp h).1
    rw [enumD_len, List.length_map] at hl
    rw [List.getElem?_eq_getElem hl] at e
    cases e
  | some y =>
    have h2 := enumD_get (k := 0) (xs := l.map f) (i := i) (x := f y) (by rw [List.getElem?_map, e]; rfl)
    rw [h2] at h
    cases h
    exact ⟨y, rfl, by simp⟩
theorem sbm2 {b l : Addr} {μ : M} {m : MO} (h : μ b = some m) (k : μ l = none) : b ≠ l := fun e => by subst e; rw [h] at k; cases k
theorem sub_both {μ μ' : M} {r : Addr} {X : MO} (h : Sub μ μ') : Sub (μ.set r X) (μ'.set r X) := fun a m e => by
  by_cases ha : a = r
  · subst ha; rw [set_same] at e ⊢; exact e
  · rw [set_ne ha] at e ⊢; exact h a m e
theorem min2_of {a b m : Int} (h1 : m ∈ [a, b]) (h2 : ∀ y, y ∈ [a, b] → m ≤ y) : m = min a b := by
  have := h2 a (by simp)
  have := h2 b (by simp)
  simp only [List.mem_cons, List.not_mem_nil, or_false] at h1
  omega
theorem max2_of {a b m : Int} (h1 : m ∈ [a, b]) (h2 : ∀ y, y ∈ [a, b] → y ≤ m) : m = max a b := by
  have := h2 a (by simp)
  have := h2 b (by simp)
  simp only [List.mem_cons, List.not_mem_nil, or_false] at h1
  omega
theorem ok_sweep_rows {f : Addr} {fd : FuncData} (F : Fun K "sweep_rows" "sweep_rows" s_sweep_rows f fd) (B : Bs mg) (G_measure_of : Def P w K mg base "measure_of" ["lines"] 4 (spI K P_measure_of)) (G_pieces_of : Def P w K mg base "pieces_of" ["line"] 1 (spI K P_pieces_of)) : FnOk P w K mg base CX0 5 f fd ["lines"] (spI K P_sweep_rows) := by
  refine F.ok sc_sweep_rows (fun vs H Q E h => spI_len h len_sweep_rows) (fun cdv A outer s H vs Q E hr h => ?_)
  have hu65 := hu65_of hr
  refine ⟨_, (pss_cons (ps_set (i := 1) sc_sweep_rows.nd rfl (by first | exact Or.inl rfl | exact Or.inr rfl) (pe_def G_measure_of (hr.mono (by decide)) (by rfl) (pa_cons (pv 0) pa_nil)))
      (pss_cons (ps_set (i := 2) sc_sweep_rows.nd rfl (by first | exact Or.inl rfl | exact Or.inr rfl) (pe_lst pa_nil))
      (pss_cons (ps_for PassesOwn.never rfl (EN.pi_enum0 (K := K) rfl (by rfl) B.b_enumerate (pa_cons (pv 0) pa_nil)) (pg_tup (by rfl) (pgs_cons (pg_name (i := 3) sc_sweep_rows.nd rfl (by first | exact Or.inl rfl | exact Or.inr rfl)) (pgs_cons (pg_name (i := 4) sc_sweep_rows.nd rfl (by first | exact Or.inl rfl | exact Or.inr rfl)) pgs_nil)))
      (pss_one (ps_for PassesOwn.never rfl (EN.pi_enumL (K := K) rfl (by rfl) B.b_enumerate (pa_cons (pe_def G_pieces_of (hr.mono (by decide)) (by rfl) (pa_cons (pv 4) pa_nil)) pa_nil)) (pg_tup (by rfl) (pgs_cons (pg_name (i := 5) sc_sweep_rows.nd rfl (by first | exact Or.inl rfl | exact Or.inr rfl)) (pgs_cons (pg_name (i := 6) sc_sweep_rows.nd rfl (by first | exact Or.inl rfl | exact Or.inr rfl)) pgs_nil)))
      (pss_cons (ps_setLc (i := 7) (own := [("top", 9), ("bottom", 10), ("y", 8)]) (g := gTup K 2 (gCons (gTup K 2 (gCons (gName 9) (gCons (gName 10) gNil))) (gCons (gName 8) gNil))) (tt := tYes) rfl sc_sweep_rows.nd rfl rfl (sw_true rfl rfl rfl (by decide +kernel)) (pi_tupK (K := K) rfl (pv 6)) (blkOk_by (own := [("top", 9), ("bottom", 10), ("y", 8)]) (N := N_sweep_rows) (sc := defScope s_sweep_rows) (by decide +kernel)) (fun _ _ _ _ _ => (pg_tup (by rfl) (pgs_cons (pg_tup (by rfl) (pgs_cons (pg_name (i := 9) sc_sweep_rows.nd rfl (by first | exact Or.inl rfl | exact Or.inr rfl)) (pgs_cons (pg_name (i := 10) sc_sweep_rows.nd rfl (by first | exact Or.inl rfl | exact Or.inr rfl)) pgs_nil))) (pgs_cons (pg_name (i := 8) sc_sweep_rows.nd rfl (by first | exact Or.inl rfl | exact Or.inr rfl)) pgs_nil)))) (fun _ _ _ _ _ => pts_nil) (fun _ _ _ _ _ => (pe_op op_mulW (pv 9) (pe_op op_fdivW (pv 1) (pv 10)))))
      (pss_cons (ps_expr (pe_bm PySem.F.plainAttrs_list PySem.F.slot_list_append PySem.F.type_list_append mt_append (pv 2) (pa_cons (pe_tup (pa_cons (pe_callB (cr_min rfl) (by rfl) B.b_min (by decide +kernel) (pa_cons (pv 7) pa_nil)) (pa_cons pe_int (pa_cons (pv 3) (pa_cons (pv 5) pa_nil))))) pa_nil)))
      (pss_one (ps_expr (pe_bm PySem.F.plainAttrs_list PySem.F.slot_list_append PySem.F.type_list_append mt_append (pv 2) (pa_cons (pe_tup (pa_cons (pe_callB (cr_max rfl) (by rfl) B.b_max (by decide +kernel) (pa_cons (pv 7) pa_nil)) (pa_cons pe_int (pa_cons (pv 3) (pa_cons (pv 5) pa_nil))))) pa_nil)))))))))
      (pss_one (ps_ret (pe_callB (SD.cr_sortDK (K := K) rfl hr.units) (by rfl) B.b_sorted (by decide +kernel) (pa_cons (pv 2) pa_nil))))))), body_okU h (fun ds μ Φ p => ?_)⟩
  (try dsimp only [cxOf, Cx.nox, Cx.wish, List.map_cons, List.map_nil])
  obtain ⟨ls, rfl, h, q⟩ := p
  show AS K _ [some _, none, none, none, none, none, none, none, none, none, none] _ _
  walk_at "go"
  refine use_measure h fun m hm => ?_
  walk_at "go"
  intro f0 hf0
  walk_at "go"
  refine s_for (ai_E0 ?_)
  walk_at "go"
  refine ⟨fun i τ' μ' => ∃ (o3 o4 o5 o6 o7 : Option D), μ' f0 = some (.lst ((rowsK m ls i).map encEv)) ∧ Sub μ μ' ∧ τ' = [some (encLs ls), some (.int (m : Int)), some (.ref f0), o3, o4, o5, o6, o7, none, none, none], ⟨_, _, _, _, _, set_same, sub_new Sub.refl hf0, rfl⟩, ?_, ?_⟩
  · rintro i x τ' μ' hx ⟨o3, o4, o5, o6, o7, hf, sb, rfl⟩
    obtain ⟨l, hl, rfl⟩ := enum_get hx
    have hlm := List.mem_of_getElem? hl
    have hil := (List.getElem?_eq_some_iff.mp hl).1
    have egd : ls.getD i [] = l := by rw [List.getD_eq_getElem?_getD, hl]; rfl
    walk_at "go"
    refine s_for (ai_EL ?_)
    walk_at "go"
    refine use_pieces fun r hr => ?_
    walk_at "go"
    refine ⟨r, _, rfl, set_same, ?_⟩
    rw [set_del hr]
    refine ⟨fun j τ' μ2 => ∃ (o5 o6 o7 : Option D), μ2 f0 = some (.lst ((rowsK m ls i ++ rowL m ls i j).map encEv)) ∧ Sub μ μ2 ∧ τ' = [some (encLs ls), some (.int (m : Int)), some (.ref f0), some (.int (i : Int)), some (encL l), o5, o6, o7, none, none, none], ⟨_, _, _, by rw [hf]; unfold rowL; simp, sb, rfl⟩, ?_, ?_⟩
    · rintro j y τ' μ2 hy ⟨o5, o6, o7, hf2, sb2, rfl⟩
      obtain ⟨pc, hp, rfl⟩ := enum_get hy
      have hj := (List.getElem?_eq_some_iff.mp hp).1
      have pm := pcs_mem (List.mem_of_getElem? hp)
      have epc : pcAt ls (i, j) = pc := by unfold pcAt; rw [egd, hp]; rfl
      have ga := h.g _ hlm _ pm.1
      have gb := h.g _ hlm _ pm.2
      have sm : Sz 4 (m : Int) := by
        have := Nat.le_of_dvd (by decide) hm.dvd
        unfold Sz
        omega
      walk_at "go"
      refine a_lcp tg_21 (fun d => match d with | .tup [.tup [.int t, .int b], _] => .int (sx m (t, b)) | _ => .non) (fun _ => true) (ai_T ?_)
      walk_at "go"
      refine ⟨fun x hx => ?_, fun w hw => ?_⟩
      · have hg : ∃ p : Pl, GoodP p ∧ x = encP p := by
          simp only [List.mem_cons, List.not_mem_nil, or_false] at hx
          rcases hx with rfl | rfl
          · exact ⟨_, ga, rfl⟩
          · exact ⟨_, gb, rfl⟩
        obtain ⟨pl, gp, rfl⟩ := hg
        have bp := gp.x.pos
        have s1 := gp.x.s1
        have s2 := gp.x.s2
        refine ⟨_, ⟨_, _, _, rfl, rfl⟩, rfl, at_yes ⟨rfl, rfl⟩, fun _ => ?_⟩
        walk_at "nf"
        have sd : Sz 4 ((m : Int) / pl.1.2) := by
          have h0 : 0 ≤ (m : Int) / pl.1.2 := Int.ediv_nonneg (by omega) (by omega)
          have h1 : (m : Int) / pl.1.2 ≤ m := Int.ediv_le_self _ (by omega)
          unfold Sz at *
          omega
        walk_at "go"
        exact ⟨rfl, rfl⟩
      · have fw : f0 ≠ w := sbm2 hf2 hw
        have w0 : μ w = none := sb2.none hw
        have hw3 : ((id μ2).set w (.lst ([sx m pc.1.1, sx m pc.2.1].map D.int))) w = some (.lst ([sx m pc.1.1, sx m pc.2.1].map D.int)) := set_same
        have hf3 : ((id μ2).set w (.lst ([sx m pc.1.1, sx m pc.2.1].map D.int))) f0 = some (.lst ((rowsK m ls i ++ rowL m ls i j).map encEv)) := by rw [set_ne fw]; exact hf2
        have sb3 : Sub μ ((id μ2).set w (.lst ([sx m pc.1.1, sx m pc.2.1].map D.int))) := sub_new sb2 hw
        show AG K _ _ _ ((id μ2).set w (.lst ([sx m pc.1.1, sx m pc.2.1].map D.int))) _
        generalize ((id μ2).set w (.lst ([sx m pc.1.1, sx m pc.2.1].map D.int))) = μ3 at hw3 hf3 sb3 ⊢
        have len1 : ((rowsK m ls i ++ rowL m ls i j).map encEv).length ≤ 90000 := by
          have h1 := rowsK_len (m := m) h.l i
          have h2 := rowL_len m ls i j
          have h3 : 2 * 400 * i ≤ 2 * 400 * 100 := Nat.mul_le_mul (Nat.le_refl _) (by have := h.n; omega)
          have h4 := h.l _ hlm
          have h5 := pcs_len l
          rw [List.length_map, List.length_append]
          omega
        walk_at "go"
        refine m_append (ds := (rowsK m ls i ++ rowL m ls i j).map encEv) (a := f0) ?_
        walk_at "go"
        refine ⟨rfl, ⟨_, hf3⟩, ?_⟩
        walk_at "go"
        refine rc_minL hw3 (by simp) fun mn m1 m2 => ?_
        have emn := min2_of m1 m2
        subst emn
        walk_at "go"
        refine ⟨hf3, size_of (by omega), ?_⟩
        have hw4 : (μ3.set f0 (.lst ((rowsK m ls i ++ rowL m ls i j).map encEv ++ [encEv (stE (loP m ls) (i, j))]))) w = some (.lst ([sx m pc.1.1, sx m pc.2.1].map D.int)) := by rw [set_ne fw.symm]; exact hw3
        have hf4 : (μ3.set f0 (.lst ((rowsK m ls i ++ rowL m ls i j).map encEv ++ [encEv (stE (loP m ls) (i, j))]))) f0 = some (.lst ((rowsK m ls i ++ rowL m ls i j).map encEv ++ [encEv (stE (loP m ls) (i, j))])) := set_same
        have sb4 : Sub μ (μ3.set f0 (.lst ((rowsK m ls i ++ rowL m ls i j).map encEv ++ [encEv (stE (loP m ls) (i, j))]))) := sub_own sb3 hf0
        have elo : loP m ls (i, j) = min (sx m pc.1.1) (sx m pc.2.1) := by unfold loP; rw [epc]
        have ehi : hiP m ls (i, j) = max (sx m pc.1.1) (sx m pc.2.1) := by unfold hiP; rw [epc]
        rw [show D.tup [.int (min (sx m pc.1.1) (sx m pc.2.1)), .int 0, .int (i : Int), .int (j : Int)] = encEv (stE (loP m ls) (i, j)) by rw [← elo]; rfl]
        generalize (μ3.set f0 (.lst ((rowsK m ls i ++ rowL m ls i j).map encEv ++ [encEv (stE (loP m ls) (i, j))]))) = μ4 at hw4 hf4 sb4 ⊢
        walk_at "go"
        refine m_append (ds := (rowsK m ls i ++ rowL m ls i j).map encEv ++ [encEv (stE (loP m ls) (i, j))]) (a := f0) ?_
        walk_at "go"
        refine ⟨rfl, ⟨_, hf4⟩, ?_⟩
        walk_at "go"
        refine rc_maxL hw4 (by simp) fun mx m1 m2 => ?_
        have emx := max2_of m1 m2
        subst emx
        walk_at "go"
        refine ⟨hf4, size_of (by rw [List.length_append]; simp only [List.length_singleton]; omega), ?_⟩
        walk_at "go"
        refine ⟨_, _, _, ?_, sub_own sb4 hf0, rfl⟩
        rw [set_same, rowL_succ, ← List.append_assoc, List.map_append (l₂ := evs m ls (i, j))]
        unfold evs
        rw [List.map_cons, List.map_cons, List.map_nil, List.append_assoc]
        show some (MO.lst (_ ++ [encEv (stE (loP m ls) (i, j)), D.tup [.int (max (sx m pc.1.1) (sx m pc.2.1)), .int 1, .int (i : Int), .int (j : Int)]])) = _
        rw [← ehi]
        rfl
    · rintro τ' μ2 ⟨o5, o6, o7, hf2, sb2, rfl⟩
      dsimp only [id]
      have fr : f0 ≠ r := sbm2 hf hr
      have r0 : μ r = none := sb.none hr
      refine ⟨_, _, _, _, _, ?_, sub_own sb2 r0, rfl⟩
      rw [set_ne fr, hf2, rowsK_succ, egd, enumD_len, List.length_map]
  · rintro τ' μ' ⟨o3, o4, o5, o6, o7, hf, sb, rfl⟩
    dsimp only [id]
    walk_at "go"
    rw [enumD_len, List.length_map] at hf
    refine rc_sorted hf (okn_ev _) (ev_alike _) (ev_sortable _) fun r hr => ?_
    rw [srt_ev]
    have r0 : μ r = none := sb.none hr
    exact up_of (sub_both sb) (q m r hm r0)
theorem ok_swept {f : Addr} {fd : FuncData} (F : Fun K "swept" "swept" s_swept f fd) (B : Bs mg) (G_sweep_rows : Def P w K mg base "sweep_rows" ["lines"] 5 (spI K P_sweep_rows)) (G_touch : Def P w K mg base "touch" ["a", "b", "c", "d"] 3 (spI K P_touch)) : FnOk P w K mg base CX0 6 f fd ["lines"] (spI K P_swept) := by
  refine F.ok sc_swept (fun vs H Q E h => spI_len h len_swept) (fun cdv A outer s H vs Q E hr h => ?_)
  have hu65 := hu65_of hr
  refine ⟨_, (pss_cons (ps_set (i := 1) sc_swept.nd rfl (by first | exact Or.inl rfl | exact Or.inr rfl) pe_dnewT)
      (pss_cons (ps_set (i := 2) sc_swept.nd rfl (by first | exact Or.inl rfl | exact Or.inr rfl) pe_dnewT)
      (pss_cons (ps_for PassesOwn.never rfl (pi_listK (K := K) rfl (pe_def G_sweep_rows (hr.mono (by decide)) (by rfl) (pa_cons (pv 0) pa_nil))) (pg_tup (by rfl) (pgs_cons (pg_name (i := 3) sc_swept.nd rfl (by first | exact Or.inl rfl | exact Or.inr rfl)) (pgs_cons (pg_name (i := 4) sc_swept.nd rfl (by first | exact Or.inl rfl | exact Or.inr rfl)) (pgs_cons (pg_name (i := 5) sc_swept.nd rfl (by first | exact Or.inl rfl | exact Or.inr rfl)) (pgs_cons (pg_name (i := 6) sc_swept.nd rfl (by first | exact Or.inl rfl | exact Or.inr rfl)) pgs_nil)))))
      (pss_one (ps_if (pt_cmpR op_eq (pv 4) pe_int (by first | exact nomark _ | rfl)) (pss_one (ps_expr (pe_bm PySem.F.plainAttrs_dict PySem.F.slot_dict_pop PySem.F.type_dict_pop (ITT.mt_popT1 (hu_of hr)) (pv 1) (pa_cons (pe_tup (pa_cons (pv 5) (pa_cons (pv 6) pa_nil))) pa_nil)))) (pss_cons (ps_par (i := 7) (j := 8) rfl sc_swept.nd rfl rfl (by decide) rfl rfl (pa_cons (pe_ix (ix_seqK (K := K) rfl) (pe_ix (ix_seqK (K := K) rfl) (pv 0) (pv 5) (fun _ _ => rfl)) (pv 6) (fun _ _ => rfl)) (pa_cons (pe_ix (ix_seqK (K := K) rfl) (pe_ix (ix_seqK (K := K) rfl) (pv 0) (pv 5) (fun _ _ => rfl)) (pe_op op_add (pv 6) pe_int) (fun _ _ => rfl)) pa_nil)) (by rfl))
      (pss_cons (ps_lock (ps_for PassesOwn.never rfl (ITT.pi_itemsT (pv 1)) (pg_tup (by rfl) (pgs_cons (pg_tup (by rfl) (pgs_cons (pg_name (i := 9) sc_swept.nd rfl (by first | exact Or.inl rfl | exact Or.inr rfl)) (pgs_cons (pg_name (i := 10) sc_swept.nd rfl (by first | exact Or.inl rfl | exact Or.inr rfl)) pgs_nil))) (pgs_cons (pg_tup (by rfl) (pgs_cons (pg_name (i := 11) sc_swept.nd rfl (by first | exact Or.inl rfl | exact Or.inr rfl)) (pgs_cons (pg_name (i := 12) sc_swept.nd rfl (by first | exact Or.inl rfl | exact Or.inr rfl)) pgs_nil))) pgs_nil)))
      (pss_cons (ps_set (i := 13) sc_swept.nd rfl (by first | exact Or.inl rfl | exact Or.inr rfl) (pe_tup (pa_cons (pe_callB (call_min2 rfl) (by rfl) B.b_min (by decide +kernel) (pa_cons (pv 5) (pa_cons (pv 9) pa_nil))) (pa_cons (pe_callB (call_max2 rfl) (by rfl) B.b_max (by decide +kernel) (pa_cons (pv 5) (pa_cons (pv 9) pa_nil))) pa_nil))))
      (pss_one (ps_if (PW.pt (pw_and (pt_cmpR op_ne (pv 9) (pv 5) (by first | exact nomark _ | rfl)) (pw_and (pt_cmp (pc_dnotin (hu_of hr) (pv 13) (pv 2))) (pw_and1 (pt_val (pe_def G_touch (hr.mono (by decide)) (by rfl) (pa_cons (pv 7) (pa_cons (pv 8) (pa_cons (pv 11) (pa_cons (pv 12) pa_nil)))))))))) (pss_one (ps_dput (hu_of hr) (pv 2) (pv 13) pe_bl (by rfl))) pss_nil)))))
      (pss_one (ps_dput (hu_of hr) (pv 1) (pe_tup (pa_cons (pv 5) (pa_cons (pv 6) pa_nil))) (pe_tup (pa_cons (pv 7) (pa_cons (pv 8) pa_nil))) (by rfl))))))))
      (pss_one (ps_ret (pe_callTy (call_tupleK (K := K) rfl) (by rfl) B.b_tuple (by decide +kernel) (pa_cons (pe_callB (SDT.cr_sortDT rfl hr.units) (by rfl) B.b_sorted (by decide +kernel) (pa_cons (pv 2) pa_nil)) pa_nil))))))), body_okU h (fun ds μ Φ p => ?_)⟩
  (try dsimp only [cxOf, Cx.nox, Cx.wish, List.map_cons, List.map_nil])
  obtain ⟨ls, rfl, h, q⟩ := p
  show AS K _ [some _, none, none, none, none, none, none, none, none, none, none, none, none, none] _ _
  walk_at "go"
  refine a_dnewT fun ua hua => ?_
  walk_at "go"
  refine a_dnewT fun fa hfa => ?_
  walk_at "go"
  refine s_for (ai_L ?_)
  walk_at "go"
  refine use_rows h fun m r hm hr => ?_
  refine ⟨r, _, rfl, set_same, ?_⟩
  rw [set_del hr]
  have nuf : ua ≠ fa := (none_ne hfa).symm
  have ua0 : μ ua = none := hua
  have fa0 : μ fa = none := none_back hfa
  have r0 : μ r = none := none_back (none_back hr)
  have hs := evE_lt (m : Int) ls
  refine ⟨fun i τ' μ' => ∃ (F : List (Nat × Nat)) (o3 o4 o5 o6 o7 o8 o9 o10 o11 o12 o13 : Option D), FndOk m ls i F ∧ μ' ua = some (.dT (undK ls (underK (hiP m ls) (evE m ls) i))) ∧ μ' fa = some (.dT (fndK F)) ∧ Sub μ μ' ∧ τ' = [some (encLs ls), some (.ref ua), some (.ref fa), o3, o4, o5, o6, o7, o8, o9, o10, o11, o12, o13], ⟨[], _, _, _, _, _, _, _, _, _, _, _, fnd_zero _ _, by rw [set_ne nuf]; exact set_same, set_same, sub_new (sub_new Sub.refl hua) hfa, rfl⟩, ?_, ?_⟩
  · rintro i x τ' μ' hx ⟨F, o3, o4, o5, o6, o7, o8, o9, o10, o11, o12, o13, hF, hu, hf, sb, rfl⟩
    obtain ⟨e, he, rfl⟩ := mapget hx
    obtain ⟨pq, hpq, ee⟩ := (evE_mem e).mp (List.mem_of_getElem? he)
    have hp1 := mem_allP.mp hpq
    rcases ee with rfl | rfl
    · show AG K _ (.tup [.int (loP m ls pq), .int 0, .int (pq.1 : Int), .int (pq.2 : Int)]) _ _ _
      walk_at "go"
      rw [if_neg (by show ¬ decide ((0 : Int) = 1) = true; decide)]
      have hpc := pcs_get.mp (pcAt_get hpq)
      have g1 : atI ((ls.getD pq.1 []).map encP) (pq.2 : Int) = some (encP (pcAt ls pq).1) := atI_nat (by rw [List.getElem?_map, hpc.1]; rfl)
      have g2 : atI ((ls.getD pq.1 []).map encP) ((pq.2 : Int) + 1) = some (encP (pcAt ls pq).2) := by
        rw [show (pq.2 : Int) + 1 = ((pq.2 + 1 : Nat) : Int) by omega]
        exact atI_nat (by rw [List.getElem?_map, hpc.2]; rfl)
      have gq := good_at h hpq
      walk_at "go"
      refine ro_ix rfl (atl hp1.1) ?_
      walk_at "go"
      refine ro_ix rfl g1 ?_
      walk_at "go"
      refine ro_ix rfl (atl hp1.1) ?_
      walk_at "go"
      refine ro_ix rfl g2 ?_
      walk_at "go"
      refine s_lockT hu fun od us => ?_
      refine s_for (ai_itT ?_)
      walk_at "go"
      refine ⟨ua, od, us, _, rfl, set_same, ?_⟩
      have nuf2 : ua ≠ fa := fun e => nuf e
      have hf1 : ((μ'.set ua (.fT od us (undK ls (underK (hiP m ls) (evE m ls) i)))).del ua) fa = some (.dT (fndK F)) := by
        rw [Z.del_ne nuf.symm, set_ne nuf.symm]
        exact hf
      have sb1 : Sub μ ((μ'.set ua (.fT od us (undK ls (underK (hiP m ls) (evE m ls) i)))).del ua) := fun a mo e => by
        have ha : a ≠ ua := fun z => by rw [z, ua0] at e; cases e
        rw [Z.del_ne ha, set_ne ha]
        exact sb a mo e
      generalize ((μ'.set ua (.fT od us (undK ls (underK (hiP m ls) (evE m ls) i)))).del ua) = μ1 at hf1 sb1 ⊢
      refine ⟨fun t τ' μ2 => ∃ (F : List (Nat × Nat)) (o9 o10 o11 o12 o13 : Option D), FndTo m ls i pq t F ∧ μ2 fa = some (.dT (fndK F)) ∧ Sub μ μ2 ∧ τ' = [some (encLs ls), some (.ref ua), some (.ref fa), some (.int (loP m ls pq)), some (.int 0), some (.int (pq.1 : Int)), some (.int (pq.2 : Int)), some (encP (pcAt ls pq).1), some (encP (pcAt ls pq).2), o9, o10, o11, o12, o13], ⟨F, _, _, _, _, _, fnd_start hF, hf1, sb1, rfl⟩, ?_, ?_⟩
      · rintro t x τ' μ2 hx ⟨F, o9, o10, o11, o12, o13, hF, hf2, sb2, rfl⟩
        obtain ⟨p, hp, rfl⟩ := items_get hx
        have hpS := und_in (List.mem_of_getElem? hp)
        have gp := good_at h hpS
        have len := fnd_small h hpq hF
        walk_at "go"
        rw [pr_enc]
        refine ite_nd (fun ne => ?_) (fun ne => ?_)
        · have ne' : p.1 ≠ pq.1 := fun e => ne (by rw [e])
          walk_at "go"
          refine a_dnotin ?_
          walk_at "go"
          refine ⟨fa, _, rfl, .inr (.inl ⟨_, _, hf2, rfl, rfl⟩), ?_⟩
          rw [val_fnd]
          walk_at "go"
          refine ite_nd (fun nin => ?_) (fun nin => ?_)
          · walk_at "go"
            refine use_touch gq.1 gq.2 gp.1 gp.2 ?_
            cases et : tch (pcAt ls pq).1 (pcAt ls pq).2 (pcAt ls p).1 (pcAt ls p).2
            · walk_at "go"
              exact ⟨F, _, _, _, _, _, fnd_skip hF hp (fun z => by have hz := z.2.2; unfold tP at hz; rw [et] at hz; exact Bool.false_ne_true hz), hf2, sb2, rfl⟩
            · walk_at "go"
              refine s_dput ?_
              walk_at "go"
              refine .inl ⟨_, _, hf2, rfl, ?_, ?_⟩
              · unfold fndK
                rw [List.length_map]
                exact size_of (by omega)
              · rw [put_fnd nin]
                exact ⟨_, _, _, _, _, _, fnd_add hF hp ne' nin et, set_same, sub_own sb2 fa0, rfl⟩
          · walk_at "go"
            exact ⟨F, _, _, _, _, _, fnd_skip hF hp (fun z => z.2.1 nin), hf2, sb2, rfl⟩
        · walk_at "go"
          exact ⟨F, _, _, _, _, _, fnd_skip hF hp (fun z => z.1 (by omega)), hf2, sb2, rfl⟩
      · rintro τ' μ2 ⟨F, o9, o10, o11, o12, o13, hF, hf2, sb2, rfl⟩
        refine ⟨set_same, ?_⟩
        rw [set_set]
        have hF2 := fnd_done hF he (by unfold itemsD undK; rw [List.length_map, List.length_map]; exact Nat.le_refl _)
        walk_at "go"
        refine s_dput ?_
        walk_at "go"
        refine .inl ⟨_, key2 pq, set_same, rfl, ?_, ?_⟩
        · unfold undK
          rw [List.length_map]
          exact size_of (by have := und_small (m := m) (k := i) h; omega)
        · rw [set_set]
          have e1 := put_und (ls := ls) (und_start (evE_mem (m := m)) hs he)
          refine ⟨F, _, _, _, _, _, _, _, _, _, _, _, hF2, ?_, ?_, sub_own sb2 ua0, rfl⟩
          · rw [set_same, under_start hs (lo_hi m pq) he, ← e1]
          · rw [set_ne nuf.symm]
            exact hf2
    · show AG K _ (.tup [.int (hiP m ls pq), .int 1, .int (pq.1 : Int), .int (pq.2 : Int)]) _ _ _
      walk_at "go"
      rw [if_pos (by show decide ((1 : Int) = 1) = true; decide)]
      have hin := und_end (evE_mem (m := m)) hs hpq (lo_hi m pq) he
      obtain ⟨d0, hd0⟩ := val_und_some (ls := ls) hin
      walk_at "go"
      refine m_popT (a := ua) (kvs := undK ls (underK (hiP m ls) (evE m ls) i)) (k0 := key2 pq) (d := d0) ?_
      walk_at "go"
      refine ⟨rfl, ⟨_, hu⟩, ?_⟩
      walk_at "go"
      refine ⟨rfl, hu, hd0, ?_⟩
      rw [drop_und, ← under_end he]
      exact ⟨F, _, _, _, _, _, _, _, _, _, _, _, fnd_end hF he, set_same, by rw [set_ne nuf.symm]; exact hf, sub_own sb ua0, rfl⟩
  · rintro τ' μ' ⟨F, o3, o4, o5, o6, o7, o8, o9, o10, o11, o12, o13, hF, hu, hf, sb, rfl⟩
    dsimp only [id]
    walk_at "go"
    rw [List.length_map] at hF
    refine rc_sortDT (kvs := fndK F) (ks := F.map keyI) ?_ ?_ (key_alike F) (key_sortable F) fun w hw => ?_
    · rw [set_ne (sbm2 (set_same (μ := μ.set ua (.dT []))) hr)]; exact hf
    · unfold fndK
      rw [List.map_map, List.map_map]
      rfl
    rw [srt_keys, fnd_rows h hm hF]
    walk_at "go"
    refine rc_tuple (seq_ref set_same) ?_
    exact up_of (sub_new (sub_own sb r0) hw) q
theorem use_take {μ : M} {Φ : D → M → Prop} {b : Addr} {n c m : Int} (h : μ b = some (.lst [.int c, .int m])) (hm : BgOk m) (hn : 0 < n) (hz : Sz 4000 n) (q : ∀ d c' m', 0 ≤ d → d < n → Sz 4000 d → BgOk m' → Φ (.int d) (μ.set b (.lst [.int c', .int m']))) : P_l_take [.ref b, .int n] μ Φ := ⟨b, n, c, m, rfl, h, hm, hn, hz, q⟩
theorem use_bag {μ : M} {Φ : D → M → Prop} {ns : List Int} {k : Int} (h0 : 0 ≤ k) (h1 : k ≤ 1000) (q : ∀ p c m, μ p = none → BgOk m → Φ (.ref p) (μ.set p (.lst [.int c, .int m]))) : P_l_bag [.rol (ns.map D.int), .int k] μ Φ := ⟨ns, k, rfl, h0, h1, q⟩
theorem prime8 {k : Int} (h0 : 0 ≤ k) (h1 : k < 8) : ∃ p : Int, atI [D.int 2147483629, D.int 2147483587, D.int 2147483579, D.int 2147483563, D.int 2147483549, D.int 2147483543, D.int 2147483497, D.int 2147483489] k = some (.int p) ∧ 0 < p ∧ p < 2147483648 := by
  have h : k = 0 ∨ k = 1 ∨ k = 2 ∨ k = 3 ∨ k = 4 ∨ k = 5 ∨ k = 6 ∨ k = 7 := by omega
  rcases h with h | h | h | h | h | h | h | h <;> subst h <;> exact ⟨_, rfl, by decide, by decide⟩
theorem ok_l_bag {f : Addr} {fd : FuncData} (F : Fun K "_law_bag" "_law_bag" s_l_bag f fd) (B : Bs mg) : FnOk P w K mg base CX0 2 f fd ["_law_script", "_law_at"] (spI K P_l_bag) := by
  refine F.ok sc_l_bag (fun vs H Q E h => spI_len h len_l_bag) (fun cdv A outer s H vs Q E hr h => ?_)
  have hu65 := hu65_of hr
  refine ⟨_, (pss_cons (ps_set (i := 2) sc_l_bag.nd rfl (by first | exact Or.inl rfl | exact Or.inr rfl) pe_int)
      (pss_cons (ps_if (pt_cmpR op_lt (pv 1) (pe_callB (call_lenK (K := K) rfl) (by rfl) B.b_len (by decide +kernel) (pa_cons (pv 0) pa_nil)) (by first | exact nomark _ | rfl)) (pss_one (ps_set (i := 2) sc_l_bag.nd rfl (by first | exact Or.inl rfl | exact Or.inr rfl) (pe_ix (ix_seqK (K := K) rfl) (pv 0) (pv 1) (fun _ _ => rfl)))) pss_nil)
      (pss_cons (ps_set (i := 3) sc_l_bag.nd rfl (by first | exact Or.inl rfl | exact Or.inr rfl) pe_int)
      (pss_cons (ps_if (pt_cmpR op_ge (pe_callB call_abs (by rfl) B.b_abs (by decide +kernel) (pa_cons (pv 2) pa_nil)) (pe_op op_pow pe_int pe_int) (by first | exact nomark _ | rfl)) (pss_one (ps_set (i := 3) sc_l_bag.nd rfl (by first | exact Or.inl rfl | exact Or.inr rfl) (pe_callB call_abs (by rfl) B.b_abs (by decide +kernel) (pa_cons (pv 2) pa_nil)))) pss_nil)
      (pss_cons (ps_set (i := 4) sc_l_bag.nd rfl (by first | exact Or.inl rfl | exact Or.inr rfl) (pe_lst (pa_cons pe_int (pa_cons pe_int (pa_cons pe_int (pa_cons pe_int (pa_cons pe_int (pa_cons pe_int (pa_cons pe_int (pa_cons pe_int pa_nil))))))))))
      (pss_one (ps_ret (pe_lst (pa_cons (pv 3) (pa_cons (pe_op op_mod (pe_op op_pow (pe_op op_add (pe_op op_add (pe_op op_mod (pv 2) pe_int) (pe_op op_mulW pe_int (pv 1))) pe_int) pe_int) (pe_ix (ix_seqK (K := K) rfl) (pv 4) (pe_op op_mod (pv 1) pe_int) (fun _ _ => rfl))) pa_nil)))))))))), body_okU h (fun ds μ Φ p => ?_)⟩
  (try dsimp only [cxOf, Cx.nox, Cx.wish, List.map_cons, List.map_nil])
  obtain ⟨ns, k, rfl, h0, h1, q⟩ := p
  show AS K _ [some _, some _, none, none, none] _ _
  have sk : Sz 31 k := by unfold Sz; omega
  walk_at "go"
  refine if_cut (fun τ' μ' => μ' = μ ∧ ∃ c : Int, τ' = [some (.rol (ns.map D.int)), some (.int k), some (.int c), none, none]) (fun h => ?_) (fun h => ?_) ?_
  · obtain ⟨z, hz⟩ := map_get (ns := ns) h0 (by simpa using h)
    walk_at "go"
    refine ro_ix rfl hz ?_
    walk_at "go"
    exact ⟨by trivial, _, rfl⟩
  · walk_at "go"
    exact ⟨by trivial, _, rfl⟩
  rintro τ' μ' ⟨rfl, c, rfl⟩
  walk_at "go"
  refine if_cut (fun τ' μ2 => μ2 = μ' ∧ ∃ g : Int, τ' = [some (.rol (ns.map D.int)), some (.int k), some (.int c), some (.int g), none]) (fun h => ?_) (fun h => ?_) ?_
  · walk_at "go"
    exact ⟨by trivial, _, rfl⟩
  · walk_at "go"
    exact ⟨by trivial, _, rfl⟩
  rintro τ' μ2 ⟨rfl, g, rfl⟩
  walk_at "go"
  intro l hl
  obtain ⟨pr, hp, p0, p1⟩ := prime8 (k := k % 8) (Int.emod_nonneg _ (by decide)) (Int.emod_lt_of_pos _ (by decide))
  have hb : (c % 2147483647 + 104729 * k + 7).natAbs < 2 ^ 64 := by
    have := Int.emod_nonneg c (by decide : (2147483647 : Int) ≠ 0)
    have := Int.emod_lt_of_pos c (by decide : (0 : Int) < 2147483647)
    omega
  have cp : CPow (c % 2147483647 + 104729 * k + 7) 5 := ⟨by decide, by decide, hb⟩
  walk_at "go"
  refine ro_ix (seq_ref (by walk_at "mu")) hp ?_
  walk_at "go"
  intro r hr
  have hr' := none_back hr
  refine up_of (sb_sub (sb_new sb_refl hl)) (q r _ _ hr' ⟨Int.emod_nonneg _ (by omega), ?_⟩)
  have := Int.emod_lt_of_pos ((c % 2147483647 + 104729 * k + 7) ^ 5) p0
  omega
theorem ok_l_take {f : Addr} {fd : FuncData} (F : Fun K "_law_take" "_law_take" s_l_take f fd) (B : Bs mg) : FnOk P w K mg base CX0 1 f fd ["_law_bag_here", "_law_many"] (spI K P_l_take) := by
  refine F.ok sc_l_take (fun vs H Q E h => spI_len h len_l_take) (fun cdv A outer s H vs Q E hr h => ?_)
  have hu65 := hu65_of hr
  refine ⟨_, (pss_cons (ps_if (pt_cmpR op_gt (pe_ix (ix_seqK (K := K) rfl) (pv 0) pe_int (fun _ _ => rfl)) pe_int (by first | exact nomark _ | rfl)) (pss_cons (ps_set (i := 2) sc_l_take.nd rfl (by first | exact Or.inl rfl | exact Or.inr rfl) (pe_op op_mod (pe_ix (ix_seqK (K := K) rfl) (pv 0) pe_int (fun _ _ => rfl)) (pv 1)))
      (pss_cons (ps_asg (pe_op op_fdivW (pe_ix (ix_seqK (K := K) rfl) (pv 0) pe_int (fun _ _ => rfl)) (pv 1)) (pg_sub (pv 0) pe_int set_list))
      (pss_one (ps_ret (pv 2))))) pss_nil)
      (pss_cons (ps_asg (pe_op op_mod (pe_op op_add (pe_op op_mulW (pe_ix (ix_seqK (K := K) rfl) (pv 0) pe_int (fun _ _ => rfl)) pe_int) pe_int) pe_int) (pg_sub (pv 0) pe_int set_list))
      (pss_one (ps_ret (pe_op op_mod (pe_op op_mod (pe_op op_pow (pe_op op_fdivW (pe_ix (ix_seqK (K := K) rfl) (pv 0) pe_int (fun _ _ => rfl)) pe_int) pe_int) pe_int) (pv 1)))))), body_ok h (fun ds μ Φ p => ?_)⟩
  (try dsimp only [cxOf, Cx.nox, Cx.wish, List.map_cons, List.map_nil])
  obtain ⟨b, n, c, m, rfl, hb, hm, hn, hz, q⟩ := p
  show AS K _ [some _, some _, none] _ _
  have sm : Sz 31 m := by unfold Sz; have := hm.1; have := hm.2; omega
  walk_at "go"
  refine ite_d (fun h => ?_) (fun h => ?_)
  · walk_at "go"
    exact q _ _ _ (Int.emod_nonneg _ (by omega)) (Int.emod_lt_of_pos _ hn) (sz_mod hn hz) hm
  · walk_at "go"
    exact q _ _ _ (Int.emod_nonneg _ (by omega)) (Int.emod_lt_of_pos _ hn) (sz_mod hn hz) ⟨Int.emod_nonneg _ (by decide), by have := Int.emod_lt_of_pos (m * 48271 + 11) (show (0 : Int) < 2147483647 by decide); omega⟩
abbrev encH (p : Pl) : D := .tup [.int (hmX p), .int (hmY p), .int (hmW p)]
theorem szh {p : Pl} (h : GoodP p) : Sz 4000 (hmX p) ∧ Sz 4000 (hmY p) ∧ Sz 4000 (hmW p) := ⟨sz_mul h.x.s1 h.y.s2, sz_mul h.y.s1 h.x.s2, sz_mul h.x.s2 h.y.s2⟩
def P_l_homogen : PT3 := fun ds μ Φ => ∃ p : Pl, ds = [encP p] ∧ GoodP p ∧ Φ (encH p) μ
theorem len_l_homogen (ds : List D) (μ : M) (Φ : D → M → Prop) (h : P_l_homogen ds μ Φ) : ds.length = 1 := by
  obtain ⟨_, rfl, _⟩ := h
  rfl
theorem use_homogen {μ : M} {Φ : D → M → Prop} {p : Pl} (h : GoodP p) (q : Φ (encH p) μ) : P_l_homogen [encP p] μ Φ := ⟨p, rfl, h, q⟩
def P_l_spin : PT3 := fun ds μ Φ => ∃ a b c : Pl, ds = [encH a, encH b, encH c] ∧ GoodP a ∧ GoodP b ∧ GoodP c ∧ Φ (.int (psd a b c)) μ
theorem len_l_spin (ds : List D) (μ : M) (Φ : D → M → Prop) (h : P_l_spin ds μ Φ) : ds.length = 3 := by
  obtain ⟨_, _, _, rfl, _⟩ := h
  rfl
theorem use_spin {μ : M} {Φ : D → M → Prop} {a b c : Pl} (ha : GoodP a) (hb : GoodP b) (hc : GoodP c) (q : Φ (.int (psd a b c)) μ) : P_l_spin [encH a, encH b, encH c] μ Φ := ⟨a, b, c, rfl, ha, hb, hc, q⟩
def P_l_within : PT3 := fun ds μ Φ => ∃ a b c : Pl, ds = [encH a, encH b, encH c] ∧ GoodP a ∧ GoodP b ∧ GoodP c ∧ Φ (.bl (withinH a b c)) μ
theorem len_l_within (ds : List D) (μ : M) (Φ : D → M → Prop) (h : P_l_within ds μ Φ) : ds.length = 3 := by
  obtain ⟨_, _, _, rfl, _⟩ := h
  rfl
theorem use_within {μ : M} {Φ : D → M → Prop} {a b c : Pl} (ha : GoodP a) (hb : GoodP b) (hc : GoodP c) (q : Φ (.bl (withinH a b c)) μ) : P_l_within [encH a, encH b, encH c] μ Φ := ⟨a, b, c, rfl, ha, hb, hc, q⟩
def P_l_touch : PT3 := fun ds μ Φ => ∃ a b c d : Pl, ds = [encH a, encH b, encH c, encH d] ∧ GoodP a ∧ GoodP b ∧ GoodP c ∧ GoodP d ∧ Φ (.bl (tch a b c d)) μ
theorem len_l_touch (ds : List D) (μ : M) (Φ : D → M → Prop) (h : P_l_touch ds μ Φ) : ds.length = 4 := by
  obtain ⟨_, _, _, _, rfl, _⟩ := h
  rfl
theorem use_l_touch {μ : M} {Φ : D → M → Prop} {a b c d : Pl} (ha : GoodP a) (hb : GoodP b) (hc : GoodP c) (hd : GoodP d) (q : Φ (.bl (tch a b c d)) μ) : P_l_touch [encH a, encH b, encH c, encH d] μ Φ := ⟨a, b, c, d, rfl, ha, hb, hc, hd, q⟩
theorem due_sgn (n : Int) : ((if decide (0 < n) = true then 1 else 0) - (if decide (n < 0) = true then 1 else 0) : Int) = sgn n := by
  unfold sgn
  by_cases h1 : 0 < n <;> by_cases h2 : n < 0 <;> simp [h1, h2] <;> omega
theorem btw_ml {x y z m M : Int} (h1 : m ∈ [x, y]) (h2 : ∀ v ∈ [x, y], m ≤ v) (h3 : M ∈ [x, y]) (h4 : ∀ v ∈ [x, y], v ≤ M) : Btw x y z ↔ (m ≤ z ∧ z ≤ M) := by
  unfold Btw
  simp only [List.mem_cons, List.not_mem_nil, or_false] at h1 h3
  have a1 := h2 x (by simp)
  have a2 := h2 y (by simp)
  have a3 := h4 x (by simp)
  have a4 := h4 y (by simp)
  rcases h1 with h1 | h1 <;> rcases h3 with h3 | h3 <;> subst h1 <;> subst h3 <;> omega
/-- what is found ahead of turn i -/
def accW (a b c : Pl) (i : Nat) : Bool := match i with
  | 0 => true
  | 1 => decide (Btw (hmX a * hmW b * hmW c) (hmX b * hmW a * hmW c) (hmX c * hmW a * hmW b))
  | _ => withinH a b c
theorem btw_lo {x y z m : Int} (h2 : ∀ v ∈ [x, y], m ≤ v) (h : Btw x y z) : m ≤ z := by
  have a1 := h2 x (by simp)
  have a2 := h2 y (by simp)
  unfold Btw at h
  omega
theorem acc_is {x y z w v : Option D} {b c : Bool} (e : b = c) : [x, y, z, some (.bl b), w, v] = [x, y, z, some (.bl c), w, v] := by rw [e]
theorem ok_l_homogen {f : Addr} {fd : FuncData} (F : Fun K "_law_homogen" "_law_homogen" s_l_homogen f fd) (B : Bs mg) : FnOk P w K mg base CX0 1 f fd ["_law_place_here"] (spI K P_l_homogen) := by
  refine F.ok sc_l_homogen (fun vs H Q E h => spI_len h len_l_homogen) (fun cdv A outer s H vs Q E hr h => ?_)
  have hu65 := hu65_of hr
  refine ⟨_, (pss_cons (ps_asg (pv 0) (pg_tup (by rfl) (pgs_cons (pg_tup (by rfl) (pgs_cons (pg_name (i := 1) sc_l_homogen.nd rfl (by first | exact Or.inl rfl | exact Or.inr rfl)) (pgs_cons (pg_name (i := 2) sc_l_homogen.nd rfl (by first | exact Or.inl rfl | exact Or.inr rfl)) pgs_nil))) (pgs_cons (pg_tup (by rfl) (pgs_cons (pg_name (i := 3) sc_l_homogen.nd rfl (by first | exact Or.inl rfl | exact Or.inr rfl)) (pgs_cons (pg_name (i := 4) sc_l_homogen.nd rfl (by first | exact Or.inl rfl | exact Or.inr rfl)) pgs_nil))) pgs_nil))))
      (pss_one (ps_ret (pe_tup (pa_cons (pe_op op_mulW (pv 1) (pv 4)) (pa_cons (pe_op op_mulW (pv 3) (pv 2)) (pa_cons (pe_op op_mulW (pv 2) (pv 4)) pa_nil))))))), body_ok h (fun ds μ Φ p => ?_)⟩
  (try dsimp only [cxOf, Cx.nox, Cx.wish, List.map_cons, List.map_nil])
  obtain ⟨p, rfl, ⟨⟨_, h1, h2⟩, ⟨_, h3, h4⟩⟩, q⟩ := p
  show AS K _ [some _, none, none, none, none] _ _
  walk_at "go"
  exact q
theorem ok_l_spin {f : Addr} {fd : FuncData} (F : Fun K "_law_spin" "_law_spin" s_l_spin f fd) (B : Bs mg) : FnOk P w K mg base CX0 1 f fd ["_law_a", "_law_b", "_law_c"] (spI K P_l_spin) := by
  refine F.ok sc_l_spin (fun vs H Q E h => spI_len h len_l_spin) (fun cdv A outer s H vs Q E hr h => ?_)
  have hu65 := hu65_of hr
  refine ⟨_, (pss_cons (ps_set (i := 3) sc_l_spin.nd rfl (by first | exact Or.inl rfl | exact Or.inr rfl) (pe_op op_mulW (pe_ix (ix_seqK (K := K) rfl) (pv 0) pe_int (fun _ _ => rfl)) (pe_op op_sub (pe_op op_mulW (pe_ix (ix_seqK (K := K) rfl) (pv 1) pe_int (fun _ _ => rfl)) (pe_ix (ix_seqK (K := K) rfl) (pv 2) pe_int (fun _ _ => rfl))) (pe_op op_mulW (pe_ix (ix_seqK (K := K) rfl) (pv 2) pe_int (fun _ _ => rfl)) (pe_ix (ix_seqK (K := K) rfl) (pv 1) pe_int (fun _ _ => rfl))))))
      (pss_cons (ps_set (i := 3) sc_l_spin.nd rfl (by first | exact Or.inl rfl | exact Or.inr rfl) (pe_op op_sub (pv 3) (pe_op op_mulW (pe_ix (ix_seqK (K := K) rfl) (pv 0) pe_int (fun _ _ => rfl)) (pe_op op_sub (pe_op op_mulW (pe_ix (ix_seqK (K := K) rfl) (pv 1) pe_int (fun _ _ => rfl)) (pe_ix (ix_seqK (K := K) rfl) (pv 2) pe_int (fun _ _ => rfl))) (pe_op op_mulW (pe_ix (ix_seqK (K := K) rfl) (pv 2) pe_int (fun _ _ => rfl)) (pe_ix (ix_seqK (K := K) rfl) (pv 1) pe_int (fun _ _ => rfl)))))))
      (pss_cons (ps_set (i := 3) sc_l_spin.nd rfl (by first | exact Or.inl rfl | exact Or.inr rfl) (pe_op op_add (pv 3) (pe_op op_mulW (pe_ix (ix_seqK (K := K) rfl) (pv 0) pe_int (fun _ _ => rfl)) (pe_op op_sub (pe_op op_mulW (pe_ix (ix_seqK (K := K) rfl) (pv 1) pe_int (fun _ _ => rfl)) (pe_ix (ix_seqK (K := K) rfl) (pv 2) pe_int (fun _ _ => rfl))) (pe_op op_mulW (pe_ix (ix_seqK (K := K) rfl) (pv 2) pe_int (fun _ _ => rfl)) (pe_ix (ix_seqK (K := K) rfl) (pv 1) pe_int (fun _ _ => rfl)))))))
      (pss_one (ps_ret (pe_op op_sub (pe_callTy call_int1 (by rfl) B.b_int (by decide +kernel) (pa_cons (pe_cmpR op_gt (pv 3) pe_int (by first | exact nomark _ | rfl)) pa_nil)) (pe_callTy call_int1 (by rfl) B.b_int (by decide +kernel) (pa_cons (pe_cmpR op_lt (pv 3) pe_int (by first | exact nomark _ | rfl)) pa_nil)))))))), body_ok h (fun ds μ Φ p => ?_)⟩
  (try dsimp only [cxOf, Cx.nox, Cx.wish, List.map_cons, List.map_nil])
  obtain ⟨a, b, c, rfl, ha, hb, hc, q⟩ := p
  show AS K _ [some _, some _, some _, none] _ _
  obtain ⟨a1, a2, a3⟩ := szh ha
  obtain ⟨b1, b2, b3⟩ := szh hb
  obtain ⟨c1, c2, c3⟩ := szh hc
  walk_at "go"
  exact cast_int ((due_sgn _).trans (spin_sgn ha hb hc)) q
theorem ok_l_within {f : Addr} {fd : FuncData} (F : Fun K "_law_within" "_law_within" s_l_within f fd) (B : Bs mg) : FnOk P w K mg base CX0 1 f fd ["_law_a", "_law_b", "_law_c"] (spI K P_l_within) := by
  refine F.ok sc_l_within (fun vs H Q E h => spI_len h len_l_within) (fun cdv A outer s H vs Q E hr h => ?_)
  have hu65 := hu65_of hr
  refine ⟨_, (pss_cons (ps_set (i := 3) sc_l_within.nd rfl (by first | exact Or.inl rfl | exact Or.inr rfl) pe_bl)
      (pss_cons (ps_for PassesOwn.never rfl (pi_range1 (by rfl) B.b_range (pa_cons pe_int pa_nil)) (pg_name (i := 4) sc_l_within.nd rfl (by first | exact Or.inl rfl | exact Or.inr rfl))
      (pss_cons (ps_set (i := 5) sc_l_within.nd rfl (by first | exact Or.inl rfl | exact Or.inr rfl) (pe_lst (pa_cons (pe_op op_mulW (pe_op op_mulW (pe_ix (ix_seqK (K := K) rfl) (pv 0) (pv 4) (fun _ _ => rfl)) (pe_ix (ix_seqK (K := K) rfl) (pv 1) pe_int (fun _ _ => rfl))) (pe_ix (ix_seqK (K := K) rfl) (pv 2) pe_int (fun _ _ => rfl))) (pa_cons (pe_op op_mulW (pe_op op_mulW (pe_ix (ix_seqK (K := K) rfl) (pv 1) (pv 4) (fun _ _ => rfl)) (pe_ix (ix_seqK (K := K) rfl) (pv 0) pe_int (fun _ _ => rfl))) (pe_ix (ix_seqK (K := K) rfl) (pv 2) pe_int (fun _ _ => rfl))) pa_nil))))
      (pss_one (ps_set (i := 3) sc_l_within.nd rfl (by first | exact Or.inl rfl | exact Or.inr rfl) (pe_and (pv 3) (pe_one (pe_chain op_le op_le (pe_callB (cr_min rfl) (by rfl) B.b_min (by decide +kernel) (pa_cons (pv 5) pa_nil)) (pe_op op_mulW (pe_op op_mulW (pe_ix (ix_seqK (K := K) rfl) (pv 2) (pv 4) (fun _ _ => rfl)) (pe_ix (ix_seqK (K := K) rfl) (pv 0) pe_int (fun _ _ => rfl))) (pe_ix (ix_seqK (K := K) rfl) (pv 1) pe_int (fun _ _ => rfl))) (pe_callB (cr_max rfl) (by rfl) B.b_max (by decide +kernel) (pa_cons (pv 5) pa_nil)))))))))
      (pss_one (ps_ret (pv 3))))), body_okU h (fun ds μ Φ p => ?_)⟩
  (try dsimp only [cxOf, Cx.nox, Cx.wish, List.map_cons, List.map_nil])
  obtain ⟨a, b, c, rfl, ha, hb, hc, q⟩ := p
  show AS K _ [some _, some _, some _, none, none, none] _ _
  obtain ⟨a1, a2, a3⟩ := szh ha
  obtain ⟨b1, b2, b3⟩ := szh hb
  obtain ⟨c1, c2, c3⟩ := szh hc
  walk_at "go"
  refine s_for1 2 (fun (i : Nat) τ' μ' => Sub μ μ' ∧ ∃ o5 o6 : Option D, τ' = [some (encH a), some (encH b), some (encH c), some (.bl (accW a b c i)), o5, o6]) ?_ ?_ ?_
  · walk_at "go"
    exact ⟨rfl, by decide, by decide, Sub.refl, _, _, rfl⟩
  · rintro i τ' μ' hi ⟨sb, o5, o6, rfl⟩
    have hi' : i = 0 ∨ i = 1 := by omega
    rcases hi' with rfl | rfl
    · walk_at "go"
      intro l hl
      walk_at "go"
      refine iteT ?_
      walk_at "go"
      refine rc_minL (ns := [_, _]) set_same (Nat.succ_pos _) fun m hm hle => ?_
      walk_at "go"
      refine ite_d (fun h1 => ?_) (fun h1 => ?_)
      · walk_at "go"
        refine rc_maxL (ns := [_, _]) set_same (Nat.succ_pos _) fun M hM hge => ?_
        walk_at "go"
        refine ⟨sub_new sb hl, _, _, acc_is ?_⟩
        exact decide_eq_decide.mpr ⟨fun h2 => (btw_ml hm hle hM hge).mpr ⟨h1, h2⟩, fun h2 => ((btw_ml hm hle hM hge).mp h2).2⟩
      · walk_at "go"
        exact ⟨sub_new sb hl, _, _, acc_is (decide_eq_false fun h2 => h1 (btw_lo hle h2)).symm⟩
    · walk_at "go"
      intro l hl
      walk_at "go"
      refine ite_d (fun h0 => ?_) (fun h0 => ?_)
      · walk_at "go"
        refine rc_minL (ns := [_, _]) set_same (Nat.succ_pos _) fun m hm hle => ?_
        walk_at "go"
        refine ite_d (fun h1 => ?_) (fun h1 => ?_)
        · walk_at "go"
          refine rc_maxL (ns := [_, _]) set_same (Nat.succ_pos _) fun M hM hge => ?_
          walk_at "go"
          refine ⟨sub_new sb hl, _, _, acc_is ?_⟩
          show _ = withinH a b c
          unfold withinH
          rw [decide_eq_true h0, Bool.true_and]
          exact decide_eq_decide.mpr ⟨fun h2 => (btw_ml hm hle hM hge).mpr ⟨h1, h2⟩, fun h2 => ((btw_ml hm hle hM hge).mp h2).2⟩
        · walk_at "go"
          refine ⟨sub_new sb hl, _, _, acc_is ?_⟩
          show _ = withinH a b c
          unfold withinH
          rw [decide_eq_false fun h2 => h1 (btw_lo hle h2), Bool.and_false]
      · walk_at "go"
        refine ⟨sub_new sb hl, _, _, acc_is ?_⟩
        show _ = withinH a b c
        unfold withinH
        rw [decide_eq_false h0, Bool.false_and]
  · rintro τ' μ' ⟨sb, o5, o6, rfl⟩
    walk_at "go"
    exact up_of sb q
abbrev Tri := Pl × Pl × Pl
abbrev enc3 (t : Tri) : D := .tup [encH t.1, encH t.2.1, encH t.2.2]
def lie3 (t : Tri) : Bool := lieH t.1 t.2.1 t.2.2
theorem zip_tri : ∀ ts : List Tri, zipD (ts.map fun t => .int (psd t.1 t.2.1 t.2.2)) (ts.map enc3) = ts.map fun t => .tup [.int (psd t.1 t.2.1 t.2.2), enc3 t]
  | [] => by simp [zipD]
  | t :: ts => by
    have ih := zip_tri ts
    simp only [List.map_cons]
    unfold zipD
    rw [ih]
theorem sub_del {μ μ' : M} {l : Addr} (h : Sub μ μ') (hn : μ l = none) : Sub μ (μ'.del l) := fun a m e => by
  rw [Z.del_ne (fun z => by rw [z, hn] at e; cases e)]
  exact h a m e
theorem ok_l_touch {f : Addr} {fd : FuncData} (F : Fun K "_law_touch" "_law_touch" s_l_touch f fd) (B : Bs mg) (G_l_spin : Def P w K mg base "_law_spin" ["_law_a", "_law_b", "_law_c"] 1 (spI K P_l_spin)) (G_l_within : Def P w K mg base "_law_within" ["_law_a", "_law_b", "_law_c"] 1 (spI K P_l_within)) : FnOk P w K mg base CX0 2 f fd ["_law_a", "_law_b", "_law_c", "_law_d"] (spI K P_l_touch) := by
  refine F.ok sc_l_touch (fun vs H Q E h => spI_len h len_l_touch) (fun cdv A outer s H vs Q E hr h => ?_)
  have hu65 := hu65_of hr
  refine ⟨_, (pss_cons (ps_set (i := 4) sc_l_touch.nd rfl (by first | exact Or.inl rfl | exact Or.inr rfl) (pe_lst (pa_cons (pe_tup (pa_cons (pv 0) (pa_cons (pv 1) (pa_cons (pv 2) pa_nil)))) (pa_cons (pe_tup (pa_cons (pv 0) (pa_cons (pv 1) (pa_cons (pv 3) pa_nil)))) (pa_cons (pe_tup (pa_cons (pv 2) (pa_cons (pv 3) (pa_cons (pv 0) pa_nil)))) (pa_cons (pe_tup (pa_cons (pv 2) (pa_cons (pv 3) (pa_cons (pv 1) pa_nil)))) pa_nil))))))
      (pss_cons (ps_setLc (i := 5) (own := [("_law_one", 7), ("_law_other", 8), ("_law_far", 9)]) (g := gTup K 3 (gCons (gName 7) (gCons (gName 8) (gCons (gName 9) gNil)))) (tt := tYes) rfl sc_l_touch.nd rfl rfl (sw_true rfl rfl rfl (by decide +kernel)) (pi_listK (K := K) rfl (pv 4)) (blkOk_by (own := [("_law_one", 7), ("_law_other", 8), ("_law_far", 9)]) (N := N_l_touch) (sc := defScope s_l_touch) (by decide +kernel)) (fun _ _ _ _ _ => (pg_tup (by rfl) (pgs_cons (pg_name (i := 7) sc_l_touch.nd rfl (by first | exact Or.inl rfl | exact Or.inr rfl)) (pgs_cons (pg_name (i := 8) sc_l_touch.nd rfl (by first | exact Or.inl rfl | exact Or.inr rfl)) (pgs_cons (pg_name (i := 9) sc_l_touch.nd rfl (by first | exact Or.inl rfl | exact Or.inr rfl)) pgs_nil))))) (fun _ _ _ _ _ => pts_nil) (fun _ _ _ _ _ => (pe_def G_l_spin (hr.mono (by decide)) (by rfl) (pa_cons (pv 7) (pa_cons (pv 8) (pa_cons (pv 9) pa_nil))))))
      (pss_cons (ps_if (PW.pt (pw_and (pt_cmpR op_lt (pe_op op_mulW (pe_ix (ix_seqK (K := K) rfl) (pv 5) pe_int (fun _ _ => rfl)) (pe_ix (ix_seqK (K := K) rfl) (pv 5) pe_int (fun _ _ => rfl))) pe_int (by first | exact nomark _ | rfl)) (pw_and1 (pt_cmpR op_lt (pe_op op_mulW (pe_ix (ix_seqK (K := K) rfl) (pv 5) pe_int (fun _ _ => rfl)) (pe_ix (ix_seqK (K := K) rfl) (pv 5) pe_int (fun _ _ => rfl))) pe_int (by first | exact nomark _ | rfl))))) (pss_one (ps_ret pe_bl)) pss_nil)
      (pss_cons (ps_for PassesOwn.never rfl (pi_zipK (K := K) rfl (by rfl) B.b_zip (pa_cons (pv 5) (pa_cons (pv 4) pa_nil))) (pg_tup (by rfl) (pgs_cons (pg_name (i := 6) sc_l_touch.nd rfl (by first | exact Or.inl rfl | exact Or.inr rfl)) (pgs_cons (pg_tup (by rfl) (pgs_cons (pg_name (i := 7) sc_l_touch.nd rfl (by first | exact Or.inl rfl | exact Or.inr rfl)) (pgs_cons (pg_name (i := 8) sc_l_touch.nd rfl (by first | exact Or.inl rfl | exact Or.inr rfl)) (pgs_cons (pg_name (i := 9) sc_l_touch.nd rfl (by first | exact Or.inl rfl | exact Or.inr rfl)) pgs_nil)))) pgs_nil)))
      (pss_one (ps_if (PW.pt (pw_and (pt_cmpR op_eq (pv 6) pe_int (by first | exact nomark _ | rfl)) (pw_and1 (pt_val (pe_def G_l_within (hr.mono (by decide)) (by rfl) (pa_cons (pv 7) (pa_cons (pv 8) (pa_cons (pv 9) pa_nil)))))))) (pss_one (ps_ret pe_bl)) pss_nil)))
      (pss_one (ps_ret pe_bl)))))), body_okU h (fun ds μ Φ p => ?_)⟩
  (try dsimp only [cxOf, Cx.nox, Cx.wish, List.map_cons, List.map_nil])
  obtain ⟨a, b, c, d, rfl, ha, hb, hc, hd, q⟩ := p
  show AS K _ [some _, some _, some _, some _, none, none, none, none, none, none] _ _
  have good : ∀ t ∈ ([(a, b, c), (a, b, d), (c, d, a), (c, d, b)] : List Tri), GoodP t.1 ∧ GoodP t.2.1 ∧ GoodP t.2.2 := by
    intro t ht
    simp only [List.mem_cons, List.not_mem_nil, or_false] at ht
    rcases ht with rfl | rfl | rfl | rfl <;> exact ⟨by assumption, by assumption, by assumption⟩
  walk_at "go"
  intro l hl
  walk_at "go"
  refine a_lc tg_3 (ai_L ?_)
  walk_at "go"
  refine ⟨l, _, rfl, set_same, ?_⟩
  rw [set_del hl]
  have er : [D.tup [encH a, encH b, encH c], D.tup [encH a, encH b, encH d], D.tup [encH c, encH d, encH a], D.tup [encH c, encH d, encH b]] = ([(a, b, c), (a, b, d), (c, d, a), (c, d, b)] : List Tri).map enc3 := rfl
  refine ⟨fun i acc μ' => acc = (([(a, b, c), (a, b, d), (c, d, a), (c, d, b)] : List Tri).take i).map (fun t => .int (psd t.1 t.2.1 t.2.2)) ∧ μ' = μ, ⟨rfl, rfl⟩, ?_, ?_⟩
  · rintro i x acc μ' hx ⟨rfl, rfl⟩
    rw [er] at hx
    obtain ⟨t, ht, rfl⟩ := mapget hx
    obtain ⟨g1, g2, g3⟩ := good t (List.mem_of_getElem? ht)
    refine ⟨_, ⟨rfl, rfl⟩, rfl, ?_⟩
    refine at_yes ?_
    rw [if_pos rfl]
    walk_at "nf"
    walk_at "go"
    refine use_spin g1 g2 g3 ?_
    refine ⟨size_of ?_, ?_, rfl⟩
    · rw [List.length_map, List.length_take]
      exact Nat.le_trans (Nat.min_le_right _ _) (show 4 ≤ 100000 by decide)
    · rw [take_snoc ht, List.map_append]
      rfl
  · rintro acc μ' ⟨rfl, rfl⟩ r hr
    have hlr : l ≠ r := fun e => none_ne hr e.symm
    have hr' : μ' r = none := none_back hr
    show AG K _ _ _ ((μ'.set l _).set r (.lst [.int (psd a b c), .int (psd a b d), .int (psd c d a), .int (psd c d b)])) _
    walk_at "go"
    have eq0 : tch a b c d = ((decide (psd a b c * psd a b d < 0) && decide (psd c d a * psd c d b < 0)) || ([(a, b, c), (a, b, d), (c, d, a), (c, d, b)] : List Tri).any lie3) := by
      rw [← touchH_eq ha hb hc hd]
      unfold touchH lie3
      simp only [List.any_cons, List.any_nil, Bool.or_false]
    refine ite_d (fun h1 => ?_) (fun h1 => ?_)
    walk_at "go"
    refine ite_d (fun h2 => ?_) (fun h2 => ?_)
    (walk_at "go"; exact up_of (sub_new (sub_new Sub.refl hl) hr) (cast_bl (by rw [eq0, decide_eq_true h1, decide_eq_true h2]; rfl) q))
    all_goals
      have hn : (decide (psd a b c * psd a b d < 0) && decide (psd c d a * psd c d b < 0)) = false := by
        first
          | rw [decide_eq_false h2, Bool.and_false]
          | rw [decide_eq_false h1, Bool.false_and]
      rw [hn, Bool.false_or] at eq0
      walk_at "go"
      refine s_for (ai_ZL ?_)
      walk_at "go"
      refine ⟨r, l, _, _, rfl, hlr.symm, set_same, by walk_at "mu", ?_⟩
      have ez : zipD [D.int (psd a b c), D.int (psd a b d), D.int (psd c d a), D.int (psd c d b)] [D.tup [encH a, encH b, encH c], D.tup [encH a, encH b, encH d], D.tup [encH c, encH d, encH a], D.tup [encH c, encH d, encH b]] = ([(a, b, c), (a, b, d), (c, d, a), (c, d, b)] : List Tri).map fun t => .tup [.int (psd t.1 t.2.1 t.2.2), enc3 t] := zip_tri [(a, b, c), (a, b, d), (c, d, a), (c, d, b)]
      rw [ez]
      refine ⟨fun i τ' μ2 => (∀ t ∈ ([(a, b, c), (a, b, d), (c, d, a), (c, d, b)] : List Tri).take i, lie3 t = false) ∧ Sub μ' μ2 ∧ ∃ o6 o7 o8 o9 : Option D, τ' = [some (encH a), some (encH b), some (encH c), some (encH d), some (.ref l), some (.ref r), o6, o7, o8, o9], ⟨by simp, sub_del (sub_del (sub_new (sub_new Sub.refl hl) hr) hr') hl, _, _, _, _, rfl⟩, ?_, ?_⟩
      · rintro i x τ' μ2 hx ⟨hi, sb, o6, o7, o8, o9, rfl⟩
        obtain ⟨t, ht, rfl⟩ := mapget hx
        have htm := List.mem_of_getElem? ht
        obtain ⟨g1, g2, g3⟩ := good t htm
        walk_at "go"
        refine ite_d (fun h3 => ?_) (fun h3 => ?_)
        · walk_at "go"
          refine use_within g1 g2 g3 ?_
          cases e : withinH t.1 t.2.1 t.2.2
          · walk_at "go"
            exact ⟨mem_snoc ht hi (by unfold lie3 lieH; rw [e, Bool.and_false]), sb, _, _, _, _, rfl⟩
          · walk_at "go"
            refine up_of (sub_own (sub_own sb hl) hr') (cast_bl ?_ q)
            rw [eq0]
            exact (List.any_eq_true.mpr ⟨t, htm, by unfold lie3 lieH; rw [e, decide_eq_true h3]; rfl⟩).symm
        · walk_at "go"
          exact ⟨mem_snoc ht hi (by unfold lie3 lieH; rw [decide_eq_false h3, Bool.false_and]), sb, _, _, _, _, rfl⟩
      · rintro τ' μ2 ⟨hi, sb, o6, o7, o8, o9, rfl⟩
        dsimp only
        walk_at "go"
        refine up_of (sub_own (sub_own sb hl) hr') (cast_bl ?_ q)
        rw [eq0]
        exact (List.any_eq_false.mpr fun t ht => by rw [hi t (by simpa using ht)]; exact Bool.false_ne_true).symm
/-- a place with its sizes; its bottoms are parts of twelve -/
structure Gq (p : Pl) : Prop where
  g : GdP 80 p
  x : p.1.2 ∣ 12
  y : p.2.2 ∣ 12
theorem lo_12 {x u : Int} {p : Fq} (h0 : 0 < u) (h1 : u ≤ 4) (h : Lo x u p) : p.2 ∣ 12 := by
  obtain ⟨k, _, _, h2⟩ := h
  have hd : p.2 ∣ u := ⟨k, h2.symm⟩
  have : u ∣ 12 := by
    have : u = 1 ∨ u = 2 ∨ u = 3 ∨ u = 4 := by omega
    rcases this with rfl | rfl | rfl | rfl <;> decide
  exact Int.dvd_trans hd this
def P_l_place : PT3 := fun ds μ Φ => ∃ (b : Addr) (u f c m : Int), ds = [.ref b, .int u, .int f] ∧ μ b = some (.lst [.int c, .int m]) ∧ BgOk m ∧ 0 < u ∧ u ≤ 4 ∧ Sz 8 u ∧ 0 < f ∧ Sz 68 f ∧ ∀ p c' m', Gq p → BgOk m' → Φ (encP p) (μ.set b (.lst [.int c', .int m']))
theorem len_l_place (ds : List D) (μ : M) (Φ : D → M → Prop) (h : P_l_place ds μ Φ) : ds.length = 3 := by
  obtain ⟨_, _, _, _, _, rfl, _⟩ := h
  rfl
theorem use_place {μ : M} {Φ : D → M → Prop} {b : Addr} {u f c m : Int} (h : μ b = some (.lst [.int c, .int m])) (hm : BgOk m) (u0 : 0 < u) (u4 : u ≤ 4) (us : Sz 8 u) (f0 : 0 < f) (fs : Sz 68 f) (q : ∀ p c' m', Gq p → BgOk m' → Φ (encP p) (μ.set b (.lst [.int c', .int m']))) : P_l_place [.ref b, .int u, .int f] μ Φ := ⟨b, u, f, c, m, rfl, h, hm, u0, u4, us, f0, fs, q⟩
theorem pick_sign {d : Int} (h0 : 0 ≤ d) (h1 : d < 4) : ∃ z : Int, atI [D.int 1, D.int 1, D.int 1, D.int (-1)] d = some (.int z) ∧ Sz 1 z := by
  have h : d = 0 ∨ d = 1 ∨ d = 2 ∨ d = 3 := by omega
  rcases h with h | h | h | h <;> subst h <;> exact ⟨_, rfl, by decide⟩
theorem sbmu {b l : Addr} {μ : M} {m : MO} (h : μ b = some m) (k : μ l = none) : b ≠ l := fun e => by subst e; rw [h] at k; cases k
theorem ok_l_place {f : Addr} {fd : FuncData} (F : Fun K "_law_place" "_law_place" s_l_place f fd) (B : Bs mg) (G_l_low : Def P w K mg base "_law_low" ["_law_over", "_law_under"] 1 (spI K P_l_low)) (G_l_take : Def P w K mg base "_law_take" ["_law_bag_here", "_law_many"] 1 (spI K P_l_take)) : FnOk P w K mg base CX0 2 f fd ["_law_bag_here", "_law_under", "_law_far"] (spI K P_l_place) := by
  refine F.ok sc_l_place (fun vs H Q E h => spI_len h len_l_place) (fun cdv A outer s H vs Q E hr h => ?_)
  have hu65 := hu65_of hr
  refine ⟨_, (pss_cons (ps_set (i := 3) sc_l_place.nd rfl (by first | exact Or.inl rfl | exact Or.inr rfl) (pe_lst pa_nil))
      (pss_cons (ps_for PassesOwn.never rfl (pi_range1 (by rfl) B.b_range (pa_cons pe_int pa_nil)) (pg_name (i := 4) sc_l_place.nd rfl (by first | exact Or.inl rfl | exact Or.inr rfl))
      (pss_cons (ps_set (i := 5) sc_l_place.nd rfl (by first | exact Or.inl rfl | exact Or.inr rfl) (pe_op op_mulW (pe_def G_l_take (hr.mono (by decide)) (by rfl) (pa_cons (pv 0) (pa_cons (pe_op op_add (pe_op op_mulW (pv 2) (pv 1)) pe_int) pa_nil))) (pe_ix (ix_seqK (K := K) rfl) (pe_lst (pa_cons pe_int (pa_cons pe_int (pa_cons pe_int (pa_cons (pe_un un_neg pe_int) pa_nil))))) (pe_def G_l_take (hr.mono (by decide)) (by rfl) (pa_cons (pv 0) (pa_cons pe_int pa_nil))) (fun _ _ => rfl))))
      (pss_one (ps_expr (pe_bm PySem.F.plainAttrs_list PySem.F.slot_list_append PySem.F.type_list_append mt_append (pv 3) (pa_cons (pe_def G_l_low (hr.mono (by decide)) (by rfl) (pa_cons (pv 5) (pa_cons (pv 1) pa_nil))) pa_nil))))))
      (pss_one (ps_ret (pe_callTy (call_tupleK (K := K) rfl) (by rfl) B.b_tuple (by decide +kernel) (pa_cons (pv 3) pa_nil)))))), body_okU h (fun ds μ Φ p => ?_)⟩
  (try dsimp only [cxOf, Cx.nox, Cx.wish, List.map_cons, List.map_nil])
  obtain ⟨b, u, f, c, m, rfl, hb, hm, u0, u4, us, f0, fs, q⟩ := p
  show AS K _ [some _, some _, some _, none, none, none] _ _
  have hfu : 0 < f * u := Int.mul_pos f0 u0
  walk_at "go"
  intro l hl
  have hbl : b ≠ l := sbmu hb hl
  walk_at "go"
  refine s_for1 2 (fun (i : Nat) τ' μ' => ∃ (ps : List Fq) (c m : Int) (o5 o6 : Option D), ps.length = i ∧ (∀ p ∈ ps, Gd 80 p ∧ p.2 ∣ 12) ∧ BgOk m ∧ SubB b μ μ' ∧ μ' b = some (.lst [.int c, .int m]) ∧ μ' l = some (.lst (ps.map encF)) ∧ τ' = [some (.ref b), some (.int u), some (.int f), some (.ref l), o5, o6]) ?_ ?_ ?_
  · walk_at "go"
    exact ⟨rfl, by decide, by decide, [], c, m, none, none, rfl, by simp, hm, sb_new sb_refl hl, by walk_at "mu", set_same, rfl⟩
  · rintro i τ' μ' hi ⟨ps, c1, m1, o5, o6, rfl, hps, hm1, sb, hb1, hl1, rfl⟩
    walk_at "go"
    refine use_take hb1 hm1 (by omega) (by walk_at "szN") fun d c2 m2 d0 d1 ds hm2 => ?_
    have sd : Sz 77 d := sz_lt d0 d1 (by walk_at "szN")
    walk_at "go"
    intro r hr
    have hbr : b ≠ r := fun e => none_ne hr e.symm
    have hr1 : μ' r = none := none_back hr
    have hlr : l ≠ r := sbmu hl1 hr1
    walk_at "go"
    refine use_take (by walk_at "mu") hm2 (by decide) (by walk_at "szN") fun e c3 m3 e0 e1 es hm3 => ?_
    obtain ⟨z, hz, sz⟩ := pick_sign e0 e1
    walk_at "go"
    refine ro_ix (seq_ref (by walk_at "mu")) hz ?_
    walk_at "go"
    refine m_append (ds := ps.map encF) (a := l) ?_
    walk_at "go"
    refine ⟨rfl, ⟨_, by walk_at "mu"⟩, ?_⟩
    walk_at "go"
    refine use_low 80 u0 (by walk_at "szN") (by walk_at "szN") (by decide) fun p hlo hp0 => ?_
    have hp : Gd 80 p ∧ p.2 ∣ 12 := ⟨hp0, lo_12 u0 u4 hlo⟩
    refine ⟨by walk_at "mu", size_of (by rw [List.length_map]; omega), ?_⟩
    walk_at "go"
    refine ⟨ps ++ [p], c3, m3, _, _, by simp, fun x hx => (List.mem_append.mp hx).elim (hps x) fun z => by rw [List.mem_singleton.mp z]; exact hp, hm3, ?_, by walk_at "mu", ?_, rfl⟩
    · exact sb_own (sb_self (sb_new (sb_self sb) hr)) hl
    · rw [set_same]; simp
  · rintro τ' μ' ⟨ps, c1, m1, o5, o6, hlen, hps, hm1, sb, hb1, hl1, rfl⟩
    match ps, hlen, hps with
    | [x, y], _, hps =>
      walk_at "go"
      refine rc_tuple (seq_ref hl1) ?_
      exact up_of (sb_end sb hb1) (q (x, y) c1 m1 ⟨⟨(hps x (by simp)).1, (hps y (by simp)).1⟩, (hps x (by simp)).2, (hps y (by simp)).2⟩ hm1)
structure LOk (l : Ln) : Prop where
  lo : 2 ≤ l.length
  hi : l.length ≤ 20
  g : ∀ p ∈ l, Gq p
def P_l_lines : PT3 := fun ds μ Φ => ∃ (b : Addr) (n c m : Int), ds = [.ref b, .int n] ∧ μ b = some (.lst [.int c, .int m]) ∧ BgOk m ∧ 0 ≤ n ∧ n ≤ 50 ∧ ∀ (ls : List Ln) c' m', (ls.length : Int) ≤ n → (∀ l ∈ ls, LOk l) → BgOk m' → Φ (encLs ls) (μ.set b (.lst [.int c', .int m']))
theorem len_l_lines (ds : List D) (μ : M) (Φ : D → M → Prop) (h : P_l_lines ds μ Φ) : ds.length = 2 := by
  obtain ⟨_, _, _, _, rfl, _⟩ := h
  rfl
theorem use_lines {μ : M} {Φ : D → M → Prop} {b : Addr} {n c m : Int} (h : μ b = some (.lst [.int c, .int m])) (hm : BgOk m) (h0 : 0 ≤ n) (h1 : n ≤ 50) (q : ∀ (ls : List Ln) c' m', (ls.length : Int) ≤ n → (∀ l ∈ ls, LOk l) → BgOk m' → Φ (encLs ls) (μ.set b (.lst [.int c', .int m']))) : P_l_lines [.ref b, .int n] μ Φ := ⟨b, n, c, m, rfl, h, hm, h0, h1, q⟩
theorem pick_far {d : Int} (h0 : 0 ≤ d) (h1 : d < 4) : ∃ z : Int, atI [D.int 2, D.int 4, D.int 12, D.int 100000000000000000000] d = some (.int z) ∧ 0 < z ∧ Sz 68 z := by
  have h : d = 0 ∨ d = 1 ∨ d = 2 ∨ d = 3 := by omega
  rcases h with h | h | h | h <;> subst h <;> exact ⟨_, rfl, by decide, by decide⟩
theorem pick_many {d : Int} (h0 : 0 ≤ d) (h1 : d < 3) : ∃ z : Int, atI [D.int 5, D.int 5, D.int 19] d = some (.int z) ∧ 0 < z ∧ z ≤ 19 := by
  have h : d = 0 ∨ d = 1 ∨ d = 2 := by omega
  rcases h with h | h | h <;> subst h <;> exact ⟨_, rfl, by decide, by decide⟩
theorem pick_14 {d : Int} (h0 : 0 ≤ d) (h1 : d < 2) : ∃ z : Int, atI [D.int 1, D.int 4] d = some (.int z) ∧ 0 < z ∧ z ≤ 4 := by
  have h : d = 0 ∨ d = 1 := by omega
  rcases h with h | h <;> subst h <;> exact ⟨_, rfl, by decide, by decide⟩
theorem okn_encP (p : Pl) : OkN 2 (encP p) := okn_tup fun x hx => by
  simp only [List.mem_cons, List.not_mem_nil, or_false] at hx
  rcases hx with rfl | rfl <;> exact okn_pt
theorem okn_encPs (l : List Pl) : ∀ x ∈ l.map encP, OkN 2 x := fun x hx => by
  obtain ⟨p, _, rfl⟩ := List.mem_map.mp hx
  exact okn_encP p
theorem at_pl {l : List Pl} {d : Int} (h0 : 0 ≤ d) (h1 : d < l.length) : ∃ p ∈ l, atI (l.map encP) d = some (encP p) := by
  obtain ⟨j, rfl⟩ := Int.eq_ofNat_of_zero_le h0
  have hj : j < l.length := by omega
  exact ⟨l[j], List.getElem_mem hj, atI_nat (by rw [List.getElem?_map, List.getElem?_eq_getElem hj]; rfl)⟩
theorem at_last {l : List Pl} (h : 1 < l.length) : ∃ p ∈ l, atI (l.map encP) (-1) = some (encP p) := by
  rcases List.eq_nil_or_concat l with rfl | ⟨l', x, rfl⟩
  · simp at h
  · refine ⟨x, by simp, ?_⟩
    rw [List.concat_eq_append, List.map_append]
    exact atI_last _ _
/-- the state within _law_lines -/
structure LSt (b fo al : Addr) (μ μ' : M) (ls : List Ln) (ps : List Pl) (c m : Int) : Prop where
  hm : BgOk m
  sb : SubB b μ μ'
  hb : μ' b = some (.lst [.int c, .int m])
  hf : μ' fo = some (.lst (ls.map encL))
  ha : μ' al = some (.lst (ps.map encP))
  gl : ∀ l ∈ ls, LOk l
  gp : ∀ p ∈ ps, Gq p
section
variable {b fo al l : Addr} {μ μ' : M} {ls : List Ln} {ps : List Pl} {c m c2 m2 : Int} {Y : MO}
theorem LSt.bag (h : LSt b fo al μ μ' ls ps c m) (hbf : b ≠ fo) (hba : b ≠ al) (hm2 : BgOk m2) : LSt b fo al μ (μ'.set b (.lst [.int c2, .int m2])) ls ps c2 m2 :=
  ⟨hm2, sb_self h.sb, set_same, by rw [set_ne hbf.symm]; exact h.hf, by rw [set_ne hba.symm]; exact h.ha, h.gl, h.gp⟩
theorem LSt.new (h : LSt b fo al μ μ' ls ps c m) (hl : μ' l = none) : LSt b fo al μ (μ'.set l Y) ls ps c m :=
  ⟨h.hm, sb_new h.sb hl, by rw [set_ne (sbmu h.hb hl)]; exact h.hb, by rw [set_ne (sbmu h.hf hl)]; exact h.hf, by rw [set_ne (sbmu h.ha hl)]; exact h.ha, h.gl, h.gp⟩
theorem LSt.own (h : LSt b fo al μ μ' ls ps c m) (hl : μ l = none) (n1 : b ≠ l) (n2 : fo ≠ l) (n3 : al ≠ l) : LSt b fo al μ (μ'.set l Y) ls ps c m :=
  ⟨h.hm, sb_own h.sb hl, by rw [set_ne n1]; exact h.hb, by rw [set_ne n2]; exact h.hf, by rw [set_ne n3]; exact h.ha, h.gl, h.gp⟩
theorem sb_none (h : SubB b μ μ') (hn : μ' l = none) (hne : l ≠ b) : μ l = none := by
  cases e : μ l with
  | none => rfl
  | some m => rw [h l m hne e] at hn; cases hn
end
theorem ok_l_lines {f : Addr} {fd : FuncData} (F : Fun K "_law_lines" "_law_lines" s_l_lines f fd) (B : Bs mg) (G_l_place : Def P w K mg base "_law_place" ["_law_bag_here", "_law_under", "_law_far"] 2 (spI K P_l_place)) (G_l_take : Def P w K mg base "_law_take" ["_law_bag_here", "_law_many"] 1 (spI K P_l_take)) : FnOk P w K mg base CX0 3 f fd ["_law_bag_here", "_law_most"] (spI K P_l_lines) := by
  refine F.ok sc_l_lines (fun vs H Q E h => spI_len h len_l_lines) (fun cdv A outer s H vs Q E hr h => ?_)
  have hu65 := hu65_of hr
  refine ⟨_, (pss_cons (ps_par3 (i := 2) (j := 3) (l := 4) rfl sc_l_lines.nd rfl rfl rfl (by decide) (by decide) (by decide) rfl rfl rfl (pa_cons (pe_ix (ix_seqK (K := K) rfl) (pe_lst (pa_cons pe_int (pa_cons pe_int (pa_cons pe_int (pa_cons (pe_op op_pow pe_int pe_int) pa_nil))))) (pe_def G_l_take (hr.mono (by decide)) (by rfl) (pa_cons (pv 0) (pa_cons pe_int pa_nil))) (fun _ _ => rfl)) (pa_cons (pe_lst pa_nil) (pa_cons (pe_lst pa_nil) pa_nil))) (by rfl))
      (pss_cons (ps_for PassesOwn.never rfl (pi_range1 (by rfl) B.b_range (pa_cons (pe_def G_l_take (hr.mono (by decide)) (by rfl) (pa_cons (pv 0) (pa_cons (pe_op op_add (pv 1) pe_int) pa_nil))) pa_nil)) (pg_name (i := 5) sc_l_lines.nd rfl (by first | exact Or.inl rfl | exact Or.inr rfl))
      (pss_cons (ps_set (i := 6) sc_l_lines.nd rfl (by first | exact Or.inl rfl | exact Or.inr rfl) (pe_lst pa_nil))
      (pss_cons (ps_for PassesOwn.never rfl (pi_range1 (by rfl) B.b_range (pa_cons (pe_op op_add pe_int (pe_def G_l_take (hr.mono (by decide)) (by rfl) (pa_cons (pv 0) (pa_cons (pe_ix (ix_seqK (K := K) rfl) (pe_lst (pa_cons pe_int (pa_cons pe_int (pa_cons pe_int pa_nil)))) (pe_def G_l_take (hr.mono (by decide)) (by rfl) (pa_cons (pv 0) (pa_cons pe_int pa_nil))) (fun _ _ => rfl)) pa_nil)))) pa_nil)) (pg_name (i := 7) sc_l_lines.nd rfl (by first | exact Or.inl rfl | exact Or.inr rfl))
      (pss_cons (ps_set (i := 8) sc_l_lines.nd rfl (by first | exact Or.inl rfl | exact Or.inr rfl) (pe_def G_l_take (hr.mono (by decide)) (by rfl) (pa_cons (pv 0) (pa_cons pe_int pa_nil))))
      (pss_cons (ps_set (i := 9) sc_l_lines.nd rfl (by first | exact Or.inl rfl | exact Or.inr rfl) (pe_def G_l_place (hr.mono (by decide)) (by rfl) (pa_cons (pv 0) (pa_cons (pe_op op_add pe_int (pe_def G_l_take (hr.mono (by decide)) (by rfl) (pa_cons (pv 0) (pa_cons (pe_ix (ix_seqK (K := K) rfl) (pe_lst (pa_cons pe_int (pa_cons pe_int pa_nil))) (pe_def G_l_take (hr.mono (by decide)) (by rfl) (pa_cons (pv 0) (pa_cons pe_int pa_nil))) (fun _ _ => rfl)) pa_nil)))) (pa_cons (pv 2) pa_nil)))))
      (pss_cons (ps_if (PW.pt (pw_and (pt_cmpR op_eq (pv 8) pe_int (by first | exact nomark _ | rfl)) (pw_and1 (pt_cmpR (op_neDK (K := K) rfl hr.units) (pv 4) (pe_lst pa_nil) (by first | exact nomark _ | rfl))))) (pss_one (ps_set (i := 9) sc_l_lines.nd rfl (by first | exact Or.inl rfl | exact Or.inr rfl) (pe_ix (ix_seqK (K := K) rfl) (pv 4) (pe_def G_l_take (hr.mono (by decide)) (by rfl) (pa_cons (pv 0) (pa_cons (pe_callB (call_lenK (K := K) rfl) (by rfl) B.b_len (by decide +kernel) (pa_cons (pv 4) pa_nil)) pa_nil))) (fun _ _ => rfl)))) pss_nil)
      (pss_cons (ps_if (PW.pt (pw_and (pt_cmpR op_eq (pv 8) pe_int (by first | exact nomark _ | rfl)) (pw_and (pt_cmpR op_gt (pe_callB (call_lenK (K := K) rfl) (by rfl) B.b_len (by decide +kernel) (pa_cons (pv 6) pa_nil)) pe_int (by first | exact nomark _ | rfl)) (pw_and1 (pt_cmpR op_lt (pv 2) pe_int (by first | exact nomark _ | rfl)))))) (pss_one (ps_set (i := 9) sc_l_lines.nd rfl (by first | exact Or.inl rfl | exact Or.inr rfl) (pe_ix (ix_seqK (K := K) rfl) (pv 6) (pe_un un_neg pe_int) (fun _ _ => rfl)))) pss_nil)
      (pss_cons (ps_expr (pe_bm PySem.F.plainAttrs_list PySem.F.slot_list_append PySem.F.type_list_append mt_append (pv 6) (pa_cons (pv 9) pa_nil)))
      (pss_one (ps_expr (pe_bm PySem.F.plainAttrs_list PySem.F.slot_list_append PySem.F.type_list_append mt_append (pv 4) (pa_cons (pv 9) pa_nil))))))))))
      (pss_one (ps_expr (pe_bm PySem.F.plainAttrs_list PySem.F.slot_list_append PySem.F.type_list_append mt_append (pv 3) (pa_cons (pe_callTy (call_tupleK (K := K) rfl) (by rfl) B.b_tuple (by decide +kernel) (pa_cons (pv 6) pa_nil)) pa_nil)))))))
      (pss_one (ps_ret (pe_callTy (call_tupleK (K := K) rfl) (by rfl) B.b_tuple (by decide +kernel) (pa_cons (pv 3) pa_nil)))))), body_okU h (fun ds μ Φ p => ?_)⟩
  (try dsimp only [cxOf, Cx.nox, Cx.wish, List.map_cons, List.map_nil])
  obtain ⟨b, n, c, m, rfl, hb, hm, n0, n1, q⟩ := p
  show AS K _ [some _, some _, none, none, none, none, none, none, none, none] _ _
  have sn : Sz 31 n := by unfold Sz; omega
  walk_at "go"
  intro r hr
  have hbr : b ≠ r := sbmu hb hr
  walk_at "go"
  refine use_take (by walk_at "mu") hm (by decide) (by walk_at "szN") fun d c1 m1 d0 d1 ds hm1 => ?_
  obtain ⟨far, hz, far0, fars⟩ := pick_far d0 d1
  walk_at "go"
  refine ro_ix (seq_ref (by walk_at "mu")) hz ?_
  walk_at "go"
  intro fo hfo
  have bf : b ≠ fo := (none_ne hfo).symm
  have f0' : μ fo = none := none_back (none_back hfo)
  walk_at "go"
  intro al hal
  have fa : fo ≠ al := (none_ne hal).symm
  have ba : b ≠ al := (none_ne (none_back hal)).symm
  have a0' : μ al = none := none_back (none_back (none_back hal))
  have st0 : LSt b fo al μ (((( μ.set r (.lst [.int 2, .int 4, .int 12, .int 100000000000000000000])).set b (.lst [.int c1, .int m1])).set fo (.lst [])).set al (.lst [])) [] [] c1 m1 :=
    ⟨hm1, sb_own (sb_own (sb_self (sb_new sb_refl hr)) f0') a0', by walk_at "mu", by walk_at "mu", set_same, by simp, by simp⟩
  walk_at "go"
  generalize ((((μ.set r (.lst [.int 2, .int 4, .int 12, .int 100000000000000000000])).set b (.lst [.int c1, .int m1])).set fo (.lst [])).set al (.lst [])) = μ3 at st0 ⊢
  refine s_for (ai_1 ?_)
  walk_at "go"
  refine use_take st0.hb hm1 (by omega) (by walk_at "szN") fun dn c2 m2 e0 e1 es hm2 => ?_
  walk_at "go"
  refine ⟨by omega, by omega, ?_⟩
  refine ⟨fun i τ' μ' => ∃ (ls : List Ln) (ps : List Pl) (c m : Int) (o5 o6 o7 o8 o9 : Option D), ls.length = i ∧ ps.length ≤ 20 * i ∧ LSt b fo al μ μ' ls ps c m ∧ τ' = [some (.ref b), some (.int n), some (.int far), some (.ref fo), some (.ref al), o5, o6, o7, o8, o9], ⟨[], [], _, _, none, none, none, none, none, rfl, by simp, st0.bag bf ba hm2, rfl⟩, ?_, ?_⟩
  · rintro i x τ' μ' hx ⟨ls, ps, c3, m3, o5, o6, o7, o8, o9, rfl, hpl, st, rfl⟩
    have hi : ls.length < dn.toNat := by
      have := (List.getElem?_eq_some_iff.mp hx).1
      simpa using this
    walk_at "go"
    intro ll hll
    have lb : b ≠ ll := sbmu st.hb hll
    have lf : fo ≠ ll := sbmu st.hf hll
    have la : al ≠ ll := sbmu st.ha hll
    have ll0 : μ ll = none := sb_none st.sb hll lb.symm
    have st1 : LSt b fo al μ (μ'.set ll (.lst [])) ls ps c3 m3 := st.new hll
    have hl1 : (μ'.set ll (.lst [])) ll = some (.lst (([] : Ln).map encP)) := set_same
    walk_at "go"
    generalize (μ'.set ll (.lst [])) = μ4 at st1 hl1 ⊢
    refine s_for (ai_1 ?_)
    walk_at "go"
    intro r5 hr5
    have st2 := st1.new (Y := .lst [.int 5, .int 5, .int 19]) hr5
    have hl2 : (μ4.set r5 (.lst [.int 5, .int 5, .int 19])) ll = some (.lst (([] : Ln).map encP)) := by rw [set_ne (sbmu hl1 hr5)]; exact hl1
    have hr2 : (μ4.set r5 (.lst [.int 5, .int 5, .int 19])) r5 = some (.lst [.int 5, .int 5, .int 19]) := set_same
    have br5 : b ≠ r5 := sbmu st1.hb hr5
    generalize (μ4.set r5 (.lst [.int 5, .int 5, .int 19])) = μ5 at st2 hl2 hr2 ⊢
    walk_at "go"
    refine use_take st2.hb st2.hm (by decide) (by walk_at "szN") fun d4 c4 m4 f0 f1 fs4 hm4 => ?_
    obtain ⟨mn, hz4, mn0, mn1⟩ := pick_many f0 f1
    walk_at "go"
    refine ro_ix (seq_ref (by walk_at "mu")) hz4 ?_
    have st3 := st2.bag (c2 := c4) (m2 := m4) bf ba hm4
    have hl3 : (μ5.set b (.lst [.int c4, .int m4])) ll = some (.lst (([] : Ln).map encP)) := by rw [set_ne lb.symm]; exact hl2
    generalize (μ5.set b (.lst [.int c4, .int m4])) = μ6 at st3 hl3 ⊢
    have smn : Sz 31 mn := by unfold Sz; omega
    walk_at "go"
    refine use_take st3.hb hm4 mn0 (by walk_at "szN") fun d5 c5 m5 g0 g1 gs hm5 => ?_
    walk_at "go"
    refine ⟨by omega, by omega, ?_⟩
    refine ⟨fun j τ' μ' => ∃ (li : Ln) (ps : List Pl) (c m : Int) (o7 o8 o9 : Option D), li.length = j ∧ (∀ p ∈ li, Gq p) ∧ ps.length ≤ 20 * ls.length + j ∧ LSt b fo al μ μ' ls ps c m ∧ μ' ll = some (.lst (li.map encP)) ∧ τ' = [some (.ref b), some (.int n), some (.int far), some (.ref fo), some (.ref al), some x, some (.ref ll), o7, o8, o9], ⟨[], ps, c5, m5, _, _, _, rfl, by simp, by simpa using hpl, st3.bag bf ba hm5, by rw [set_ne lb.symm]; exact hl3, rfl⟩, ?_, ?_⟩
    · rintro j y τ' μ' hy ⟨li, ps, c6, m6, o7, o8, o9, rfl, hli, hpl, st4, hl4, rfl⟩
      have hj : li.length < (2 + d5).toNat := by
        have := (List.getElem?_eq_some_iff.mp hy).1
        simpa using this
      walk_at "go"
      refine use_take st4.hb st4.hm (by decide) (by walk_at "szN") fun way c7 m7 w0 w1 ws hm7 => ?_
      have st5 := st4.bag (c2 := c7) (m2 := m7) bf ba hm7
      have hl5 : (μ'.set b (.lst [.int c7, .int m7])) ll = some (.lst (li.map encP)) := by rw [set_ne lb.symm]; exact hl4
      generalize (μ'.set b (.lst [.int c7, .int m7])) = μ7 at st5 hl5 ⊢
      walk_at "go"
      intro r6 hr6
      have st6 := st5.new (Y := .lst [.int 1, .int 4]) hr6
      have hl6 : (μ7.set r6 (.lst [.int 1, .int 4])) ll = some (.lst (li.map encP)) := by rw [set_ne (sbmu hl5 hr6)]; exact hl5
      have br6 : b ≠ r6 := sbmu st5.hb hr6
      have hr6' : (μ7.set r6 (.lst [.int 1, .int 4])) r6 = some (.lst [.int 1, .int 4]) := set_same
      generalize (μ7.set r6 (.lst [.int 1, .int 4])) = μ8 at st6 hl6 hr6' ⊢
      walk_at "go"
      refine use_take st6.hb st6.hm (by decide) (by walk_at "szN") fun d8 c8 m8 h0 h1 hs8 hm8 => ?_
      obtain ⟨mx, hz8, mx0, mx1⟩ := pick_14 h0 h1
      walk_at "go"
      refine ro_ix (seq_ref (by walk_at "mu")) hz8 ?_
      have st7 := st6.bag (c2 := c8) (m2 := m8) bf ba hm8
      have hl7 : (μ8.set b (.lst [.int c8, .int m8])) ll = some (.lst (li.map encP)) := by rw [set_ne lb.symm]; exact hl6
      generalize (μ8.set b (.lst [.int c8, .int m8])) = μ9 at st7 hl7 ⊢
      have smx : Sz 31 mx := by unfold Sz; omega
      walk_at "go"
      refine use_take st7.hb st7.hm mx0 (by walk_at "szN") fun d9 c9 m9 i0 i1 is9 hm9 => ?_
      have st8 := st7.bag (c2 := c9) (m2 := m9) bf ba hm9
      have hl8 : (μ9.set b (.lst [.int c9, .int m9])) ll = some (.lst (li.map encP)) := by rw [set_ne lb.symm]; exact hl7
      generalize (μ9.set b (.lst [.int c9, .int m9])) = μa at st8 hl8 ⊢
      walk_at "go"
      refine use_place st8.hb st8.hm (by omega) (by omega) (by unfold Sz; omega) far0 fars fun pl ca ma gpl hma => ?_
      have st9 := st8.bag (c2 := ca) (m2 := ma) bf ba hma
      have hl9 : (μa.set b (.lst [.int ca, .int ma])) ll = some (.lst (li.map encP)) := by rw [set_ne lb.symm]; exact hl8
      generalize (μa.set b (.lst [.int ca, .int ma])) = μb at st9 hl9 ⊢
      refine g_name ?_
      walk_at "nf"
      have hps : ps.length ≤ 2000 := by omega
      refine s_cut (M0 := fun τ' μ' => ∃ (pl : Pl) (c m : Int), Gq pl ∧ LSt b fo al μ μ' ls ps c m ∧ μ' ll = some (.lst (li.map encP)) ∧ τ' = [some (.ref b), some (.int n), some (.int far), some (.ref fo), some (.ref al), some x, some (.ref ll), some y, some (.int way), some (encP pl)]) ?_ ?_
      · walk_at "go"
        refine ite_d (fun q1 => ?_) (fun q1 => ?_)
        · walk_at "go"
          intro rn hrn
          have sta := st9.new (Y := .lst []) hrn
          have hla : (μb.set rn (.lst [])) ll = some (.lst (li.map encP)) := by rw [set_ne (sbmu hl9 hrn)]; exact hl9
          have hrn' : (μb.set rn (.lst [])) rn = some (.lst []) := set_same
          generalize (μb.set rn (.lst [])) = μc at sta hla hrn' ⊢
          walk_at "go"
          refine ro_neNil (n := 2) sta.ha hrn' (okn_encPs ps) (by decide) ?_
          cases hem : (ps.map encP).isEmpty
          · have hpos : 0 < ps.length := by
              rcases ps with _ | ⟨p0, ps⟩
              · simp at hem
              · simp
            have haa := sta.ha
            walk_at "go"
            have slen : Sz 4000 (((ps.map encP).length : Nat) : Int) := by
              rw [List.length_map]
              have : Sz 31 ((ps.length : Nat) : Int) := by unfold Sz; omega
              exact sz_mono this (by decide)
            refine use_take sta.hb sta.hm (by rw [List.length_map]; omega) slen fun dd cb mb j0 j1 js hmb => ?_
            rw [List.length_map] at j1
            obtain ⟨p, hp, hat⟩ := at_pl j0 j1
            have stb := sta.bag (c2 := cb) (m2 := mb) bf ba hmb
            have hlb : (μc.set b (.lst [.int cb, .int mb])) ll = some (.lst (li.map encP)) := by rw [set_ne lb.symm]; exact hla
            generalize (μc.set b (.lst [.int cb, .int mb])) = μd at stb hlb ⊢
            walk_at "go"
            refine ro_ix (seq_ref stb.ha) hat ?_
            walk_at "go"
            exact ⟨p, cb, mb, stb.gp p hp, stb, hlb, rfl⟩
          · walk_at "go"
            exact ⟨pl, ca, ma, gpl, sta, hla, rfl⟩
        · walk_at "go"
          exact ⟨pl, ca, ma, gpl, st9, hl9, rfl⟩
      rintro τ' μ' ⟨pl, ca, ma, gpl, st9, hl9, rfl⟩
      refine s_cut (M0 := fun τ' μ' => ∃ (pl : Pl) (c m : Int), Gq pl ∧ LSt b fo al μ μ' ls ps c m ∧ μ' ll = some (.lst (li.map encP)) ∧ τ' = [some (.ref b), some (.int n), some (.int far), some (.ref fo), some (.ref al), some x, some (.ref ll), some y, some (.int way), some (encP pl)]) ?_ ?_
      · walk_at "go"
        refine ite_d (fun q1 => ?_) (fun q1 => ?_)
        · walk_at "go"
          refine ite_d (fun q2 => ?_) (fun q2 => ?_)
          · have hlen : 1 < li.length := by
              rw [List.length_map] at q2
              omega
            walk_at "go"
            refine ite_d (fun q3 => ?_) (fun q3 => ?_)
            · obtain ⟨p, hp, hat⟩ := at_last hlen
              walk_at "go"
              refine ro_ix (seq_ref hl9) hat ?_
              walk_at "go"
              exact ⟨p, ca, ma, hli p hp, st9, hl9, rfl⟩
            · walk_at "go"
              exact ⟨pl, ca, ma, gpl, st9, hl9, rfl⟩
          · walk_at "go"
            exact ⟨pl, ca, ma, gpl, st9, hl9, rfl⟩
        · walk_at "go"
          exact ⟨pl, ca, ma, gpl, st9, hl9, rfl⟩
      rintro τ' μ' ⟨pl, ca, ma, gpl, st9, hl9, rfl⟩
      walk_at "go"
      refine m_append (ds := li.map encP) (a := ll) ?_
      walk_at "go"
      refine ⟨rfl, ⟨_, hl9⟩, ?_⟩
      walk_at "go"
      refine ⟨hl9, size_of (by rw [List.length_map]; omega), ?_⟩
      walk_at "go"
      refine m_append (ds := ps.map encP) (a := al) ?_
      walk_at "go"
      have sta := st9.own (Y := .lst (li.map encP ++ [encP pl])) ll0 lb lf la
      refine ⟨rfl, ⟨_, sta.ha⟩, ?_⟩
      walk_at "go"
      refine ⟨sta.ha, size_of (by rw [List.length_map]; omega), ?_⟩
      walk_at "go"
      refine ⟨li ++ [pl], ps ++ [pl], ca, ma, _, _, _, by simp, ?_, by simp only [List.length_append, List.length_cons, List.length_nil]; omega, ⟨st9.hm, ?_, ?_, ?_, ?_, st9.gl, ?_⟩, ?_, rfl⟩
      · exact fun z hz => (List.mem_append.mp hz).elim (hli z) fun e => by rw [List.mem_singleton.mp e]; exact gpl
      · exact sb_own (sb_own st9.sb ll0) a0'
      · rw [set_ne ba, set_ne lb]; exact st9.hb
      · rw [set_ne fa, set_ne lf]; exact st9.hf
      · rw [set_same]; simp
      · exact fun z hz => (List.mem_append.mp hz).elim (st9.gp z) fun e => by rw [List.mem_singleton.mp e]; exact gpl
      · rw [set_ne la.symm, set_same]; simp
    · rintro τ' μ' ⟨li, ps, c6, m6, o7, o8, o9, hlen, hli, hpl, st4, hl4, rfl⟩
      rw [List.length_map, List.length_range] at hlen hpl
      dsimp only [id]
      have hff := st4.hf
      walk_at "go"
      refine m_append (ds := ls.map encL) (a := fo) ?_
      walk_at "go"
      refine ⟨rfl, ⟨_, hff⟩, ?_⟩
      walk_at "go"
      refine rc_tuple (seq_ref hl4) ?_
      refine ⟨hff, size_of (by rw [List.length_map]; omega), ?_⟩
      walk_at "go"
      refine ⟨ls ++ [li], ps, c6, m6, _, _, _, _, _, by simp, by omega, ⟨st4.hm, sb_own st4.sb f0', ?_, ?_, ?_, ?_, st4.gp⟩, rfl⟩
      · rw [set_ne bf]; exact st4.hb
      · rw [set_same]; simp
      · rw [set_ne fa.symm]; exact st4.ha
      · intro z hz
        rcases List.mem_append.mp hz with hz | hz
        · exact st4.gl z hz
        · rw [List.mem_singleton.mp hz]
          exact ⟨by omega, by omega, hli⟩
  · rintro τ' μ' ⟨ls, ps, c6, m6, o5, o6, o7, o8, o9, hlen, hpl, st, rfl⟩
    rw [List.length_map, List.length_range] at hlen
    dsimp only [id]
    have hff := st.hf
    walk_at "go"
    refine rc_tuple (seq_ref hff) ?_
    exact up_of (sb_end st.sb st.hb) (q ls c6 m6 (by omega) st.gl st.hm)
def P_l_meet : PT3 := fun ds μ Φ => ∃ l m : Ln, ds = [encL l, encL m] ∧ l.length ≤ 1000 ∧ m.length ≤ 1000 ∧ (∀ p ∈ l, GoodP p) ∧ (∀ p ∈ m, GoodP p) ∧ Φ (.bl (lmeet l m)) μ
theorem len_l_meet (ds : List D) (μ : M) (Φ : D → M → Prop) (h : P_l_meet ds μ Φ) : ds.length = 2 := by
  obtain ⟨_, _, rfl, _⟩ := h
  rfl
theorem use_l_meet {μ : M} {Φ : D → M → Prop} {l m : Ln} (h1 : l.length ≤ 1000) (h2 : m.length ≤ 1000) (g1 : ∀ p ∈ l, GoodP p) (g2 : ∀ p ∈ m, GoodP p) (q : Φ (.bl (lmeet l m)) μ) : P_l_meet [encL l, encL m] μ Φ := ⟨l, m, rfl, h1, h2, g1, g2, q⟩
theorem at_hm {l : Ln} {i : Nat} {x : Pl × Pl} (h : (pcs l)[i]? = some x) : atI (l.map encH) (i : Int) = some (encH x.1) ∧ atI (l.map encH) ((i : Int) + 1) = some (encH x.2) := by
  obtain ⟨h1, h2⟩ := pcs_get.mp h
  exact ⟨atI_nat (by rw [List.getElem?_map, h1]; rfl), by
    rw [show (i : Int) + 1 = ((i + 1 : Nat) : Int) by omega]
    exact atI_nat (by rw [List.getElem?_map, h2]; rfl)⟩
theorem range_get {n i : Nat} {x : D} (h : ((List.range n).map fun (i : Nat) => D.int (0 + (i : Int)))[i]? = some x) : i < n ∧ x = .int (i : Int) := by
  have hlt := (List.getElem?_eq_some_iff.mp h).1
  rw [List.length_map, List.length_range] at hlt
  rw [List.getElem?_map, List.getElem?_range hlt] at h
  cases h
  exact ⟨hlt, by simp⟩
theorem pcs_at {l : Ln} {i : Nat} (h : i < ((((l.map encH).length : Nat) : Int) - 1).toNat) : ∃ x, (pcs l)[i]? = some x := by
  have hl : i < (pcs l).length := by
    rw [pcs_len]
    rw [List.length_map] at h
    omega
  exact ⟨_, List.getElem?_eq_getElem hl⟩
theorem ok_l_meet {f : Addr} {fd : FuncData} (F : Fun K "_law_meet" "_law_meet" s_l_meet f fd) (B : Bs mg) (G_l_homogen : Def P w K mg base "_law_homogen" ["_law_place_here"] 1 (spI K P_l_homogen)) (G_l_touch : Def P w K mg base "_law_touch" ["_law_a", "_law_b", "_law_c", "_law_d"] 2 (spI K P_l_touch)) : FnOk P w K mg base CX0 4 f fd ["_law_one", "_law_other"] (spI K P_l_meet) := by
  refine F.ok sc_l_meet (fun vs H Q E h => spI_len h len_l_meet) (fun cdv A outer s H vs Q E hr h => ?_)
  have hu65 := hu65_of hr
  refine ⟨_, (pss_cons (ps_par (i := 2) (j := 3) rfl sc_l_meet.nd rfl rfl (by decide) rfl rfl (pa_cons (pe_lc (own := [("_law_place_here", 6)]) (g := gName 6) (tt := tYes) rfl sc_l_meet.nd (pi_tupK (K := K) rfl (pv 0)) (blkOk_by (own := [("_law_place_here", 6)]) (N := N_l_meet) (sc := defScope s_l_meet) (by decide +kernel)) (fun _ _ _ _ _ => (pg_name (i := 6) sc_l_meet.nd rfl (by first | exact Or.inl rfl | exact Or.inr rfl))) (fun _ _ _ _ _ => pts_nil) (fun _ _ _ _ _ => (pe_def G_l_homogen (hr.mono (by decide)) (by rfl) (pa_cons (pv 6) pa_nil)))) (pa_cons (pe_lc (own := [("_law_place_here", 6)]) (g := gName 6) (tt := tYes) rfl sc_l_meet.nd (pi_tupK (K := K) rfl (pv 1)) (blkOk_by (own := [("_law_place_here", 6)]) (N := N_l_meet) (sc := defScope s_l_meet) (by decide +kernel)) (fun _ _ _ _ _ => (pg_name (i := 6) sc_l_meet.nd rfl (by first | exact Or.inl rfl | exact Or.inr rfl))) (fun _ _ _ _ _ => pts_nil) (fun _ _ _ _ _ => (pe_def G_l_homogen (hr.mono (by decide)) (by rfl) (pa_cons (pv 6) pa_nil)))) pa_nil)) (by rfl))
      (pss_cons (ps_for PassesOwn.never rfl (pi_range1 (by rfl) B.b_range (pa_cons (pe_op op_sub (pe_callB (call_lenK (K := K) rfl) (by rfl) B.b_len (by decide +kernel) (pa_cons (pv 2) pa_nil)) pe_int) pa_nil)) (pg_name (i := 4) sc_l_meet.nd rfl (by first | exact Or.inl rfl | exact Or.inr rfl))
      (pss_one (ps_for PassesOwn.never rfl (pi_range1 (by rfl) B.b_range (pa_cons (pe_op op_sub (pe_callB (call_lenK (K := K) rfl) (by rfl) B.b_len (by decide +kernel) (pa_cons (pv 3) pa_nil)) pe_int) pa_nil)) (pg_name (i := 5) sc_l_meet.nd rfl (by first | exact Or.inl rfl | exact Or.inr rfl))
      (pss_one (ps_if (pt_val (pe_def G_l_touch (hr.mono (by decide)) (by rfl) (pa_cons (pe_ix (ix_seqK (K := K) rfl) (pv 2) (pv 4) (fun _ _ => rfl)) (pa_cons (pe_ix (ix_seqK (K := K) rfl) (pv 2) (pe_op op_add (pv 4) pe_int) (fun _ _ => rfl)) (pa_cons (pe_ix (ix_seqK (K := K) rfl) (pv 3) (pv 5) (fun _ _ => rfl)) (pa_cons (pe_ix (ix_seqK (K := K) rfl) (pv 3) (pe_op op_add (pv 5) pe_int) (fun _ _ => rfl)) pa_nil)))))) (pss_one (ps_ret pe_bl)) pss_nil)))))
      (pss_one (ps_ret pe_bl)))), body_okU h (fun ds μ Φ p => ?_)⟩
  (try dsimp only [cxOf, Cx.nox, Cx.wish, List.map_cons, List.map_nil])
  obtain ⟨l, m, rfl, h1, h2, g1, g2, q⟩ := p
  show AS K _ [some _, some _, none, none, none, none, none] _ _
  walk_at "go"
  refine a_lc tg_name (ai_T ?_)
  walk_at "go"
  refine ⟨fun i acc μ' => acc = (l.take i).map encH ∧ μ' = μ, ⟨rfl, rfl⟩, ?_, ?_⟩
  · rintro i x acc μ' hx ⟨rfl, rfl⟩
    obtain ⟨p, hp, rfl⟩ := mapget hx
    refine ⟨_, rfl, rfl, ?_⟩
    refine at_yes ?_
    rw [if_pos rfl]
    walk_at "nf"
    walk_at "go"
    refine use_homogen (g1 p (List.mem_of_getElem? hp)) ⟨size_of ?_, ?_, rfl⟩
    · rw [List.length_map, List.length_take]; omega
    · rw [take_snoc hp, List.map_append]; rfl
  rintro acc μ' ⟨rfl, rfl⟩ mi hmi
  rw [List.length_map, List.take_length]
  dsimp only [id] at hmi ⊢
  walk_at "go"
  refine a_lc tg_name (ai_T ?_)
  walk_at "go"
  refine ⟨fun i acc μ2 => acc = (m.take i).map encH ∧ μ2 = μ'.set mi (.lst (l.map encH)), ⟨rfl, rfl⟩, ?_, ?_⟩
  · rintro i x acc μ2 hx ⟨rfl, rfl⟩
    obtain ⟨p, hp, rfl⟩ := mapget hx
    refine ⟨_, rfl, rfl, ?_⟩
    refine at_yes ?_
    rw [if_pos rfl]
    walk_at "nf"
    walk_at "go"
    refine use_homogen (g2 p (List.mem_of_getElem? hp)) ⟨size_of ?_, ?_, rfl⟩
    · rw [List.length_map, List.length_take]; omega
    · rw [take_snoc hp, List.map_append]; rfl
  rintro acc μ2 ⟨rfl, rfl⟩ yo hyo
  rw [List.length_map, List.take_length]
  dsimp only [id] at hyo ⊢
  have sb : Sub μ' ((μ'.set mi (.lst (l.map encH))).set yo (.lst (m.map encH))) := sub_new (sub_new Sub.refl hmi) hyo
  have hm' : ((μ'.set mi (.lst (l.map encH))).set yo (.lst (m.map encH))) mi = some (.lst (l.map encH)) := by rw [set_ne (none_ne hyo).symm]; exact set_same
  have hy' : ((μ'.set mi (.lst (l.map encH))).set yo (.lst (m.map encH))) yo = some (.lst (m.map encH)) := set_same
  generalize ((μ'.set mi (.lst (l.map encH))).set yo (.lst (m.map encH))) = μ3 at sb hm' hy' ⊢
  walk_at "go"
  refine s_for (ai_1 ?_)
  walk_at "go"
  refine ⟨by rw [List.length_map]; omega, by rw [List.length_map]; omega, ?_⟩
  refine ⟨fun i τ' μ4 => (∀ x ∈ (pcs l).take i, ((pcs m).any fun y => tch x.1 x.2 y.1 y.2) = false) ∧ μ4 = μ3 ∧ ∃ o5 o6 : Option D, τ' = [some (encL l), some (encL m), some (.ref mi), some (.ref yo), o5, o6, none], ⟨by simp, rfl, _, _, rfl⟩, ?_, ?_⟩
  · rintro i x τ' μ4 hx ⟨hi, rfl, o5, o6, rfl⟩
    obtain ⟨hlt, rfl⟩ := range_get hx
    obtain ⟨x, hpx⟩ := pcs_at hlt
    have hxm := pcs_mem (List.mem_of_getElem? hpx)
    walk_at "go"
    refine s_for (ai_1 ?_)
    walk_at "go"
    refine ⟨by rw [List.length_map]; omega, by rw [List.length_map]; omega, ?_⟩
    refine ⟨fun j τ' μ5 => (∀ y ∈ (pcs m).take j, tch x.1 x.2 y.1 y.2 = false) ∧ μ5 = μ4 ∧ ∃ o6 : Option D, τ' = [some (encL l), some (encL m), some (.ref mi), some (.ref yo), some (.int (i : Int)), o6, none], ⟨by simp, rfl, _, rfl⟩, ?_, ?_⟩
    · rintro j y τ' μ5 hy ⟨hj, rfl, o6, rfl⟩
      obtain ⟨hlt2, rfl⟩ := range_get hy
      obtain ⟨y, hpy⟩ := pcs_at hlt2
      have hym := pcs_mem (List.mem_of_getElem? hpy)
      obtain ⟨a1, a2⟩ := at_hm hpx
      obtain ⟨b1, b2⟩ := at_hm hpy
      walk_at "go"
      refine ro_ix (seq_ref hm') a1 ?_
      walk_at "go"
      refine ro_ix (seq_ref hm') a2 ?_
      walk_at "go"
      refine ro_ix (seq_ref hy') b1 ?_
      walk_at "go"
      refine ro_ix (seq_ref hy') b2 ?_
      walk_at "go"
      refine use_l_touch (g1 _ hxm.1) (g1 _ hxm.2) (g2 _ hym.1) (g2 _ hym.2) ?_
      cases e : tch x.1 x.2 y.1 y.2
      · walk_at "go"
        exact ⟨mem_snoc hpy hj e, rfl, _, rfl⟩
      · walk_at "go"
        refine up_of sb (cast_bl ?_ q)
        unfold lmeet
        exact (List.any_eq_true.mpr ⟨x, List.mem_of_getElem? hpx, List.any_eq_true.mpr ⟨y, List.mem_of_getElem? hpy, e⟩⟩).symm
    · rintro τ' μ5 ⟨hj, rfl, o6, rfl⟩
      dsimp only [id]
      rw [List.length_map, List.length_range] at hj
      have e2 : ((pcs m).any fun y => tch x.1 x.2 y.1 y.2) = false := List.any_eq_false.mpr fun y hy => by
        rw [hj y (by rw [List.take_of_length_le (by rw [pcs_len, List.length_map]; omega)]; exact hy)]; exact Bool.false_ne_true
      exact ⟨mem_snoc hpx hi e2, rfl, _, _, rfl⟩
  · rintro τ' μ4 ⟨hi, rfl, o5, o6, rfl⟩
    dsimp only [id]
    walk_at "go"
    refine up_of sb (cast_bl ?_ q)
    rw [List.length_map, List.length_range] at hi
    unfold lmeet
    exact (List.any_eq_false.mpr fun x hx => by
      rw [hi x (by rw [List.take_of_length_le (by rw [pcs_len, List.length_map]; omega)]; exact hx)]; exact Bool.false_ne_true).symm
def P_l_pairs : PT3 := fun ds μ Φ => ∃ ls : List Ln, ds = [encLs ls] ∧ LsOk ls ∧ Φ (.tup (rows ls lmeet ls.length)) μ
theorem len_l_pairs (ds : List D) (μ : M) (Φ : D → M → Prop) (h : P_l_pairs ds μ Φ) : ds.length = 1 := by
  obtain ⟨_, rfl, _⟩ := h
  rfl
theorem use_pairs {μ : M} {Φ : D → M → Prop} {ls : List Ln} (h : LsOk ls) (q : Φ (.tup (rows ls lmeet ls.length)) μ) : P_l_pairs [encLs ls] μ Φ := ⟨ls, rfl, h, q⟩
theorem ok_l_pairs {f : Addr} {fd : FuncData} (F : Fun K "_law_pairs" "_law_pairs" s_l_pairs f fd) (B : Bs mg) (G_l_meet : Def P w K mg base "_law_meet" ["_law_one", "_law_other"] 4 (spI K P_l_meet)) : FnOk P w K mg base CX0 5 f fd ["_law_lines_here"] (spI K P_l_pairs) := by
  refine F.ok sc_l_pairs (fun vs H Q E h => spI_len h len_l_pairs) (fun cdv A outer s H vs Q E hr h => ?_)
  have hu65 := hu65_of hr
  refine ⟨_, (pss_cons (ps_set (i := 1) sc_l_pairs.nd rfl (by first | exact Or.inl rfl | exact Or.inr rfl) (pe_lst pa_nil))
      (pss_cons (ps_for PassesOwn.never rfl (pi_range1 (by rfl) B.b_range (pa_cons (pe_callB (call_lenK (K := K) rfl) (by rfl) B.b_len (by decide +kernel) (pa_cons (pv 0) pa_nil)) pa_nil)) (pg_name (i := 2) sc_l_pairs.nd rfl (by first | exact Or.inl rfl | exact Or.inr rfl))
      (pss_one (ps_set (i := 1) sc_l_pairs.nd rfl (by first | exact Or.inl rfl | exact Or.inr rfl) (pe_op op_cat (pv 1) (pe_lc (own := [("_law_other", 3)]) (g := gName 3)  rfl sc_l_pairs.nd (pi_range2 (by rfl) B.b_range (pa_cons (pe_op op_add (pv 2) pe_int) (pa_cons (pe_callB (call_lenK (K := K) rfl) (by rfl) B.b_len (by decide +kernel) (pa_cons (pv 0) pa_nil)) pa_nil))) (blkOk_by (own := [("_law_other", 3)]) (N := N_l_pairs) (sc := defScope s_l_pairs) (by decide +kernel)) (fun _ _ _ _ _ => (pg_name (i := 3) sc_l_pairs.nd rfl (by first | exact Or.inl rfl | exact Or.inr rfl))) (fun _ _ _ _ _ => (pts_one (pt_val (pe_def G_l_meet (hr.mono (by decide)) (by rfl) (pa_cons (pe_ix (ix_seqK (K := K) rfl) (pv 0) (pv 2) (fun _ _ => rfl)) (pa_cons (pe_ix (ix_seqK (K := K) rfl) (pv 0) (pv 3) (fun _ _ => rfl)) pa_nil)))))) (fun _ _ _ _ _ => (pe_tup (pa_cons (pv 2) (pa_cons (pv 3) pa_nil)))))))))
      (pss_one (ps_ret (pe_callTy (call_tupleK (K := K) rfl) (by rfl) B.b_tuple (by decide +kernel) (pa_cons (pv 1) pa_nil)))))), body_okU h (fun ds μ Φ p => ?_)⟩
  (try dsimp only [cxOf, Cx.nox, Cx.wish, List.map_cons, List.map_nil])
  obtain ⟨ls, rfl, h, q⟩ := p
  show AS K _ [some _, none, none, none] _ _
  have hn := h.n
  have hm : (ls.map encL).length = ls.length := List.length_map _
  walk_at "go"
  intro f0 hf0
  walk_at "go"
  refine s_for (ai_1 ?_)
  walk_at "go"
  refine ⟨by omega, by omega, ?_⟩
  refine ⟨fun i τ' μ' => ∃ (fa : Addr) (o3 : Option D), i ≤ ls.length ∧ μ' fa = some (.lst (rows ls lmeet i)) ∧ Sub μ μ' ∧ τ' = [some (encLs ls), some (.ref fa), o3, none], ⟨f0, _, Nat.zero_le _, set_same, sub_new Sub.refl hf0, rfl⟩, ?_, ?_⟩
  · rintro i x τ' μ' hx ⟨fa, o3, hi, hfa, sb, rfl⟩
    obtain ⟨hlt, rfl⟩ := range_get hx
    have hlt : i < ls.length := by omega
    walk_at "go"
    refine a_lc tg_name (ai_2 ?_)
    walk_at "go"
    refine ⟨by omega, ?_⟩
    have eN : ((((ls.map encL).length : Nat) : Int) - ((i : Int) + 1)).toNat = ls.length - (i + 1) := by omega
    rw [eN]
    refine ⟨fun j acc μ2 => acc = part ls lmeet i j ∧ μ2 = μ', ⟨rfl, rfl⟩, ?_, ?_⟩
    · rintro j y acc μ2 hy ⟨rfl, rfl⟩
      obtain ⟨j', hj, rfl⟩ := mapget hy
      have hj' : j' = j ∧ j < ls.length - (i + 1) := by
        have hlt := (List.getElem?_eq_some_iff.mp hj).1
        rw [List.length_range] at hlt
        rw [List.getElem?_range hlt] at hj
        cases hj
        exact ⟨rfl, hlt⟩
      obtain ⟨rfl, hjlt⟩ := hj'
      refine ⟨_, rfl, rfl, ?_⟩
      walk_at "nf"
      have e2 : (i : Int) + 1 + (j' : Int) = ((i + 1 + j' : Nat) : Int) := by omega
      rw [e2]
      have hk2 : i + 1 + j' < ls.length := by omega
      walk_at "go"
      refine ro_ix rfl (atl hlt) ?_
      walk_at "go"
      refine ro_ix rfl (atl hk2) ?_
      walk_at "go"
      have m1 := h.l _ (getD_mem hlt)
      have m2 := h.l _ (getD_mem hk2)
      refine use_l_meet m1.1 m2.1 m1.2 m2.2 ?_
      cases e3 : lmeet (ls.getD i []) (ls.getD (i + 1 + j') [])
      · walk_at "go"
        refine ⟨?_, rfl⟩
        rw [part_succ, e3, if_neg Bool.false_ne_true, List.append_nil]
      · walk_at "go"
        refine ⟨size_of (by have := part_len ls lmeet i j'; omega), ?_, rfl⟩
        rw [part_succ, e3, if_pos rfl]
    · rintro acc μ2 ⟨rfl, rfl⟩ r hr
      dsimp only [id] at hr ⊢
      rw [List.length_map, List.length_range, part_all]
      have s1 := rows_small h lmeet (k := i) (by omega)
      have s2 := row_len ls lmeet i
      refine ro_cat (ds := rows ls lmeet i) (es := row ls lmeet i) (by rw [set_ne (sbmu hfa hr)]; exact hfa) set_same (Nat.le_of_lt (size_of (by omega))) fun w hw => ?_
      walk_at "go"
      refine ⟨w, _, hlt, ?_, sub_new (sub_new sb hr) hw, rfl⟩
      rw [set_same, rows_succ]
  · rintro τ' μ' ⟨fa, o3, hi, hfa, sb, rfl⟩
    dsimp only [id]
    rw [List.length_map, List.length_range] at hfa
    have e : ((((ls.map encL).length : Nat) : Int)).toNat = ls.length := by omega
    rw [e] at hfa
    walk_at "go"
    refine rc_tuple (seq_ref hfa) ?_
    exact up_of sb q
structure LsG (ls : List Ln) : Prop where
  n : ls.length ≤ 50
  l : ∀ l ∈ ls, l.length ≤ 20
  g : ∀ l ∈ ls, ∀ p ∈ l, Gq p
theorem LsG.q {ls : List Ln} (h : LsG ls) : LsQ ls := ⟨by have := h.n; omega, fun l hl => by have := h.l l hl; omega, fun l hl p hp => (h.g l hl p hp).g.good (by decide), fun l hl p hp => (h.g l hl p hp).x⟩
theorem LsG.ok {ls : List Ln} (h : LsG ls) : LsOk ls := ⟨by have := h.n; omega, fun l hl => ⟨by have := h.l l hl; omega, fun p hp => (h.g l hl p hp).g.good (by decide)⟩⟩
theorem LsG.map {ls : List Ln} (h : LsG ls) (f : Ln → Ln) (hl : ∀ l, (f l).length = l.length) (hg : ∀ l ∈ ls, ∀ p ∈ f l, Gq p) : LsG (ls.map f) :=
  ⟨by rw [List.length_map]; exact h.n, fun l hm => by
    obtain ⟨x, hx, rfl⟩ := List.mem_map.mp hm
    rw [hl]
    exact h.l x hx, fun l hm => by
    obtain ⟨x, hx, rfl⟩ := List.mem_map.mp hm
    exact hg x hx⟩
theorem Gq.fl {p : Pl} (h : Gq p) : Gq (flP p) := ⟨⟨h.g.y, h.g.x⟩, h.y, h.x⟩
def to3 (p : Pl) : Pl := ((3, 1), p.2)
theorem Gq.to3 {p : Pl} (h : Gq p) : Gq (to3 p) := ⟨⟨⟨by show (0 : Int) < 1; decide, by show Sz 80 3; decide, by show Sz 80 1; decide⟩, h.g.y⟩, by show (1 : Int) ∣ 12; decide, h.y⟩
theorem LsG.pmap {ls : List Ln} (h : LsG ls) (f : Pl → Pl) (hf : ∀ p, Gq p → Gq (f p)) : LsG (ls.map fun l => l.map f) := h.map (fun l => l.map f) (fun l => List.length_map _) fun l hl p hp => by
  obtain ⟨x, hx, rfl⟩ := List.mem_map.mp hp
  exact hf x (h.g l hl x hx)
theorem LsG.rev {ls : List Ln} (h : LsG ls) : LsG (ls.map List.reverse) := h.map List.reverse (fun l => List.length_reverse) fun l hl p hp => h.g l hl p (List.mem_reverse.mp hp)
theorem rows_fl {ls : List Ln} : rows (ls.map fun l => l.map flP) lmeet (ls.map fun l => l.map flP).length = rows ls lmeet ls.length := rows_map (fun l => l.map flP) rfl fun l _ m _ => lmeet_fl l m
theorem rows_rev {ls : List Ln} (h : LsG ls) : rows (ls.map List.reverse) lmeet (ls.map List.reverse).length = rows ls lmeet ls.length := rows_map List.reverse rfl fun l hl m hm => lmeet_rev (fun p hp => (h.g l hl p hp).g.good (by decide)) fun p hp => (h.g m hm p hp).g.good (by decide)
theorem ok_law {f : Addr} {fd : FuncData} (F : Fun K "law" "law" s_law f fd) (B : Bs mg) (G_l_bag : Def P w K mg base "_law_bag" ["_law_script", "_law_at"] 2 (spI K P_l_bag)) (G_l_lines : Def P w K mg base "_law_lines" ["_law_bag_here", "_law_most"] 3 (spI K P_l_lines)) (G_l_pairs : Def P w K mg base "_law_pairs" ["_law_lines_here"] 5 (spI K P_l_pairs)) (G_l_take : Def P w K mg base "_law_take" ["_law_bag_here", "_law_many"] 1 (spI K P_l_take)) (G_swept : Def P w K mg base "swept" ["lines"] 6 (spI K P_swept)) : FnOk P w K mg base CX0 8 f fd ["_law_script"] (spI K P_law) := by
  refine F.ok sc_law (fun vs H Q E h => spI_len h len_law) (fun cdv A outer s H vs Q E hr h => ?_)
  have hu65 := hu65_of hr
  refine ⟨_, (pss_cons (ps_for PassesOwn.never rfl (pi_range1 (by rfl) B.b_range (pa_cons (pe_callB (call_max2 rfl) (by rfl) B.b_max (by decide +kernel) (pa_cons pe_int (pa_cons (pe_callB (call_min2 rfl) (by rfl) B.b_min (by decide +kernel) (pa_cons pe_int (pa_cons (pe_callB (call_lenK (K := K) rfl) (by rfl) B.b_len (by decide +kernel) (pa_cons (pv 0) pa_nil)) pa_nil))) pa_nil))) pa_nil)) (pg_name (i := 1) sc_law.nd rfl (by first | exact Or.inl rfl | exact Or.inr rfl))
      (pss_cons (ps_set (i := 2) sc_law.nd rfl (by first | exact Or.inl rfl | exact Or.inr rfl) (pe_def G_l_bag (hr.mono (by decide)) (by rfl) (pa_cons (pv 0) (pa_cons (pv 1) pa_nil))))
      (pss_cons (ps_set (i := 3) sc_law.nd rfl (by first | exact Or.inl rfl | exact Or.inr rfl) (pe_def G_l_lines (hr.mono (by decide)) (by rfl) (pa_cons (pv 2) (pa_cons pe_int pa_nil))))
      (pss_cons (ps_if (pt_cmpR op_eq (pe_def G_l_take (hr.mono (by decide)) (by rfl) (pa_cons (pv 2) (pa_cons pe_int pa_nil))) pe_int (by first | exact nomark _ | rfl)) (pss_one (ps_set (i := 3) sc_law.nd rfl (by first | exact Or.inl rfl | exact Or.inr rfl) (pe_callTy (call_tupleK (K := K) rfl) (by rfl) B.b_tuple (by decide +kernel) (pa_cons (pe_lc (own := [("_law_line", 7)]) (g := gName 7) (tt := tYes) rfl sc_law.nd (pi_tupK (K := K) rfl (pv 3)) (blkOk_by (own := [("_law_line", 7)]) (N := N_law) (sc := defScope s_law) (by decide +kernel)) (fun _ _ _ _ _ => (pg_name (i := 7) sc_law.nd rfl (by first | exact Or.inl rfl | exact Or.inr rfl))) (fun _ _ _ _ _ => pts_nil) (fun _ _ _ _ _ => (pe_callTy (call_tupleK (K := K) rfl) (by rfl) B.b_tuple (by decide +kernel) (pa_cons (pe_lc (own := [("_law_x", 8), ("_law_y", 9)]) (g := gTup K 2 (gCons (gName 8) (gCons (gName 9) gNil))) (tt := tYes) rfl sc_law.nd (pi_tupK (K := K) rfl (pv 7)) (blkOk_by (own := [("_law_x", 8), ("_law_y", 9)]) (N := N_law) (by rfl)) (fun _ _ _ _ _ => (pg_tup (by rfl) (pgs_cons (pg_name (i := 8) sc_law.nd rfl (by first | exact Or.inl rfl | exact Or.inr rfl)) (pgs_cons (pg_name (i := 9) sc_law.nd rfl (by first | exact Or.inl rfl | exact Or.inr rfl)) pgs_nil)))) (fun _ _ _ _ _ => pts_nil) (fun _ _ _ _ _ => (pe_tup (pa_cons (pe_tup (pa_cons pe_int (pa_cons pe_int pa_nil))) (pa_cons (pv 9) pa_nil))))) pa_nil)))) pa_nil)))) pss_nil)
      (pss_cons (ps_set (i := 4) sc_law.nd rfl (by first | exact Or.inl rfl | exact Or.inr rfl) (pe_def G_l_pairs (hr.mono (by decide)) (by rfl) (pa_cons (pv 3) pa_nil)))
      (pss_cons (ps_set (i := 5) sc_law.nd rfl (by first | exact Or.inl rfl | exact Or.inr rfl) (pe_callTy (call_tupleK (K := K) rfl) (by rfl) B.b_tuple (by decide +kernel) (pa_cons (pe_lc (own := [("_law_line", 7)]) (g := gName 7) (tt := tYes) rfl sc_law.nd (pi_tupK (K := K) rfl (pv 3)) (blkOk_by (own := [("_law_line", 7)]) (N := N_law) (sc := defScope s_law) (by decide +kernel)) (fun _ _ _ _ _ => (pg_name (i := 7) sc_law.nd rfl (by first | exact Or.inl rfl | exact Or.inr rfl))) (fun _ _ _ _ _ => pts_nil) (fun _ _ _ _ _ => (pe_callTy (call_tupleK (K := K) rfl) (by rfl) B.b_tuple (by decide +kernel) (pa_cons (pe_lc (own := [("_law_x", 8), ("_law_y", 9)]) (g := gTup K 2 (gCons (gName 8) (gCons (gName 9) gNil))) (tt := tYes) rfl sc_law.nd (pi_tupK (K := K) rfl (pv 7)) (blkOk_by (own := [("_law_x", 8), ("_law_y", 9)]) (N := N_law) (by rfl)) (fun _ _ _ _ _ => (pg_tup (by rfl) (pgs_cons (pg_name (i := 8) sc_law.nd rfl (by first | exact Or.inl rfl | exact Or.inr rfl)) (pgs_cons (pg_name (i := 9) sc_law.nd rfl (by first | exact Or.inl rfl | exact Or.inr rfl)) pgs_nil)))) (fun _ _ _ _ _ => pts_nil) (fun _ _ _ _ _ => (pe_tup (pa_cons (pv 9) (pa_cons (pv 8) pa_nil))))) pa_nil)))) pa_nil)))
      (pss_cons (ps_set (i := 6) sc_law.nd rfl (by first | exact Or.inl rfl | exact Or.inr rfl) (pe_callTy (call_tupleK (K := K) rfl) (by rfl) B.b_tuple (by decide +kernel) (pa_cons (pe_lc (own := [("_law_line", 7)]) (g := gName 7) (tt := tYes) rfl sc_law.nd (pi_tupK (K := K) rfl (pv 3)) (blkOk_by (own := [("_law_line", 7)]) (N := N_law) (sc := defScope s_law) (by decide +kernel)) (fun _ _ _ _ _ => (pg_name (i := 7) sc_law.nd rfl (by first | exact Or.inl rfl | exact Or.inr rfl))) (fun _ _ _ _ _ => pts_nil) (fun _ _ _ _ _ => (RVT.pe_revT (K := K) rfl (pv 7)))) pa_nil)))
      (pss_one (ps_if (PW.pt (pw_or (pt_cmpR (op_neDK (K := K) rfl hr.units) (pe_def G_swept (hr.mono (by decide)) (by rfl) (pa_cons (pv 3) pa_nil)) (pv 4) (by first | exact nomark _ | rfl)) (pw_or (pt_cmpR (op_neDK (K := K) rfl hr.units) (pe_def G_swept (hr.mono (by decide)) (by rfl) (pa_cons (pv 5) pa_nil)) (pv 4) (by first | exact nomark _ | rfl)) (pw_or (pt_cmpR (op_neDK (K := K) rfl hr.units) (pe_def G_swept (hr.mono (by decide)) (by rfl) (pa_cons (pv 6) pa_nil)) (pv 4) (by first | exact nomark _ | rfl)) (pw_or1 (pt_cmpR (op_neDK (K := K) rfl hr.units) (pe_def G_swept (hr.mono (by decide)) (by rfl) (pa_cons (pe_tup pa_nil) pa_nil)) (pe_tup pa_nil) (by first | exact nomark _ | rfl))))))) (pss_one (ps_ret pe_bl)) pss_nil)))))))))
      (pss_one (ps_ret pe_bl))), body_ok h (fun ds μ Φ p => ?_)⟩
  (try dsimp only [cxOf, Cx.nox, Cx.wish, List.map_cons, List.map_nil])
  obtain ⟨ns, rfl, hl, q⟩ := p
  show AS K _ [some _, none, none, none, none, none, none, none, none, none] _ _
  walk_at "go"
  refine s_for (ai_1 ?_)
  walk_at "go"
  refine ⟨by split <;> (try split) <;> omega, by split <;> (try split) <;> omega, ?_⟩
  refine ⟨fun i τ' μ' => ∃ o2 o3 o4 o5 o6 o7 : Option D, τ' = [some (.rol (ns.map D.int)), o2, o3, o4, o5, o6, o7, none, none, none], ⟨_, _, _, _, _, _, rfl⟩, ?_, ?_⟩
  · rintro i x τ' μ' hx ⟨o2, o3, o4, o5, o6, o7, rfl⟩
    obtain ⟨hlt, rfl⟩ := range_get hx
    have hi3 : (i : Int) ≤ 3 := by
      have : i < 4 := by
        refine Nat.lt_of_lt_of_le hlt ?_
        split <;> (try split) <;> omega
      omega
    walk_at "go"
    refine use_bag (by omega) (by omega) fun bg c m hbn hm => ?_
    walk_at "go"
    refine use_lines set_same hm (by decide) (by decide) fun ls c1 m1 hls gl hm1 => ?_
    have G0 : LsG ls := ⟨by omega, fun l hl => (gl l hl).hi, fun l hl => (gl l hl).g⟩
    refine g_name ?_
    walk_at "nf"
    refine s_cut (M0 := fun τ' μ2 => ∃ ls : List Ln, LsG ls ∧ τ' = [some (.rol (ns.map D.int)), some (.int (i : Int)), some (.ref bg), some (encLs ls), o5, o6, o7, none, none, none]) ?_ ?_
    · walk_at "go"
      refine use_take set_same hm1 (by decide) (by walk_at "szN") fun d c2 m2 d0 d1 ds hm2 => ?_
      walk_at "go"
      refine ite_d (fun e0 => ?_) (fun e0 => ?_)
      · generalize hX : (((μ'.set bg (.lst [.int c, .int m])).set bg (.lst [.int c1, .int m1])).set bg (.lst [.int c2, .int m2])) = μ1
        walk_at "go"
        refine a_lc tg_name (ai_T ?_)
        walk_at "go"
        refine ⟨fun j acc μ2 => acc = ((ls.take j).map fun l => l.map to3).map encL, rfl, ?_, ?_⟩
        · rintro j x acc μ2 hx rfl
          obtain ⟨l, hl, rfl⟩ := mapget hx
          refine ⟨_, rfl, rfl, at_yes ?_⟩
          rw [if_pos rfl]
          walk_at "nf"
          walk_at "go"
          refine a_lcp tg_2 (fun d => match d with | .tup [_, y] => .tup [.tup [.int 3, .int 1], y] | _ => .non) (fun _ => true) (ai_T ?_)
          walk_at "go"
          refine ⟨size_of (by rw [List.length_map]; have := G0.l l (List.mem_of_getElem? hl); omega), fun x hx => ?_, fun w hw => ?_⟩
          · obtain ⟨p, hp, rfl⟩ := List.mem_map.mp hx
            refine ⟨_, ⟨rfl, rfl⟩, rfl, at_yes ⟨rfl, rfl⟩, fun _ => ?_⟩
            walk_at "nf"
            walk_at "go"
            exact ⟨rfl, rfl⟩
          · walk_at "go"
            refine rc_tuple (seq_ref set_same) ?_
            refine ⟨size_of ?_, ?_⟩
            · rw [List.length_map, List.length_map, List.length_take]
              have := G0.n
              omega
            · rw [take_snoc hl, List.map_append, List.map_append, List.filter_eq_self.mpr (fun _ _ => rfl)]
              congr 1
              show [D.tup ((l.map encP).map _)] = [D.tup ((l.map to3).map encP)]
              rw [List.map_map, List.map_map]
              rfl
        · rintro acc μ2 rfl w hw
          walk_at "go"
          refine rc_tuple (seq_ref set_same) ?_
          walk_at "go"
          rw [List.length_map, List.take_length]
          exact ⟨_, G0.pmap to3 fun p => Gq.to3, rfl⟩
      · walk_at "go"
        exact ⟨ls, G0, rfl⟩
    · rintro τ' μ2 ⟨ls, G, rfl⟩
      have okr := rows_okn ls lmeet ls.length
      have okr0 := rows_okn [] lmeet 0
      walk_at "go"
      refine use_pairs G.ok ?_
      walk_at "go"
      refine a_lc tg_name (ai_T ?_)
      walk_at "go"
      refine ⟨fun j acc μ2 => acc = ((ls.take j).map fun l => l.map flP).map encL, rfl, ?_, ?_⟩
      · rintro j x acc μ2 hx rfl
        obtain ⟨l, hl, rfl⟩ := mapget hx
        refine ⟨_, rfl, rfl, at_yes ?_⟩
        rw [if_pos rfl]
        walk_at "nf"
        walk_at "go"
        refine a_lcp tg_2 (fun d => match d with | .tup [x, y] => .tup [y, x] | _ => .non) (fun _ => true) (ai_T ?_)
        walk_at "go"
        refine ⟨size_of (by rw [List.length_map]; have := G.l l (List.mem_of_getElem? hl); omega), fun x hx => ?_, fun w hw => ?_⟩
        · obtain ⟨p, hp, rfl⟩ := List.mem_map.mp hx
          refine ⟨_, ⟨rfl, rfl⟩, rfl, at_yes ⟨rfl, rfl⟩, fun _ => ?_⟩
          walk_at "nf"
          walk_at "go"
          exact ⟨rfl, rfl⟩
        · walk_at "go"
          refine rc_tuple (seq_ref set_same) ?_
          refine ⟨size_of ?_, ?_⟩
          · rw [List.length_map, List.length_map, List.length_take]
            have := G.n
            omega
          · rw [take_snoc hl, List.map_append, List.map_append, List.filter_eq_self.mpr (fun _ _ => rfl)]
            congr 1
            show [D.tup ((l.map encP).map _)] = [D.tup ((l.map flP).map encP)]
            rw [List.map_map, List.map_map]
            rfl
      · rintro acc μ3 rfl w hw
        walk_at "go"
        refine rc_tuple (seq_ref set_same) ?_
        walk_at "go"
        rw [List.length_map, List.take_length]
        refine a_lc tg_name (ai_T ?_)
        walk_at "go"
        refine ⟨fun j acc μ2 => acc = ((ls.take j).map List.reverse).map encL, rfl, ?_, ?_⟩
        · rintro j x acc μ2 hx rfl
          obtain ⟨l, hl, rfl⟩ := mapget hx
          refine ⟨_, rfl, rfl, at_yes ?_⟩
          rw [if_pos rfl]
          walk_at "nf"
          walk_at "go"
          refine ⟨size_of ?_, ?_⟩
          · rw [List.length_map, List.length_map, List.length_take]
            have := G.n
            omega
          · rw [take_snoc hl, List.map_append, List.map_append]
            congr 1
            show [D.tup (l.map encP).reverse] = [D.tup (l.reverse.map encP)]
            rw [List.map_reverse]
        · rintro acc μ4 rfl w2 hw2
          walk_at "go"
          refine rc_tuple (seq_ref set_same) ?_
          walk_at "go"
          rw [List.length_map, List.take_length]
          refine use_swept G.q ?_
          walk_at "go"
          refine ro_neD (okr.ok (by decide)) (okr.ok (by decide)) ?_
          rw [eqv_self okr]
          walk_at "go"
          refine use_swept (G.pmap flP fun p => Gq.fl).q ?_
          rw [rows_fl]
          walk_at "go"
          refine ro_neD (okr.ok (by decide)) (okr.ok (by decide)) ?_
          rw [eqv_self okr]
          walk_at "go"
          refine use_swept G.rev.q ?_
          rw [rows_rev G]
          walk_at "go"
          refine ro_neD (okr.ok (by decide)) (okr.ok (by decide)) ?_
          rw [eqv_self okr]
          walk_at "go"
          refine use_swept (ls := []) ⟨by decide, by simp, by simp, by simp⟩ ?_
          walk_at "go"
          refine s_next ?_
          exact ⟨_, _, _, _, _, _, rfl⟩
  · rintro τ' μ' ⟨o2, o3, o4, o5, o6, o7, rfl⟩
    dsimp only [id]
    walk_at "go"
    exact q _
end
theorem all_mk {l : PySem.W.OpenLaw} {w : World} {K : PySem.W.Frag} {h : Heap} {mg : Str → Option Value} {fa : Addr} (X : K.In h) (G : h.Ns mainGlobals mg) (hfa : mg "law" = some (.ref fa))
    {f1 f2 f3 f4 f5 f6 f7 f8 f9 f10 f11 f12 f13 f14 f15 f16 f17 f18 f19 f20 f21 f22 f23 f24 : Addr}
    {od1 an1 od2 an2 od3 an3 od4 an4 od5 an5 od6 an6 od7 an7 od8 an8 od9 an9 od10 an10 od11 an11 od12 an12 od13 an13 od14 an14 od15 an15 od16 an16 od17 an17 od18 an18 od19 an19 od20 an20 od21 an21 od22 an22 od23 an23 od24 an24 : Option Addr}
    {sl1 sl2 sl3 sl4 sl5 sl6 sl7 sl8 sl9 sl10 sl11 sl12 sl13 sl14 sl15 sl16 sl17 sl18 sl19 sl20 sl21 sl22 sl23 sl24 : Array (Option Value)}
    {oc1 kV1 dc1 pm1 cd1 ct1 oc2 kV2 dc2 pm2 cd2 ct2 oc3 kV3 dc3 pm3 cd3 ct3 oc4 kV4 dc4 pm4 cd4 ct4 oc5 kV5 dc5 pm5 cd5 ct5 oc6 kV6 dc6 pm6 cd6 ct6 oc7 kV7 dc7 pm7 cd7 ct7 oc8 kV8 dc8 pm8 cd8 ct8 oc9 kV9 dc9 pm9 cd9 ct9 oc10 kV10 dc10 pm10 cd10 ct10 oc11 kV11 dc11 pm11 cd11 ct11 oc12 kV12 dc12 pm12 cd12 ct12 oc13 kV13 dc13 pm13 cd13 ct13 oc14 kV14 dc14 pm14 cd14 ct14 oc15 kV15 dc15 pm15 cd15 ct15 oc16 kV16 dc16 pm16 cd16 ct16 oc17 kV17 dc17 pm17 cd17 ct17 oc18 kV18 dc18 pm18 cd18 ct18 oc19 kV19 dc19 pm19 cd19 ct19 oc20 kV20 dc20 pm20 cd20 ct20 oc21 kV21 dc21 pm21 cd21 ct21 oc22 kV22 dc22 pm22 cd22 ct22 oc23 kV23 dc23 pm23 cd23 ct23 oc24 kV24 dc24 pm24 cd24 ct24 : Value}
    {C_NoFraction : Addr}
    {T2 : Addr} {ocT2 : Value} {odT2 : Option Addr} {nT2 : Nat} {slT2 : Array (Option Value)} {tkT2_0 : Tok}
    (aC_NoFraction : PySem.W.nsIn K mainGlobals "NoFraction" = some (some (.ref C_NoFraction)))
    (kc_NoFraction : PySem.W.keepIn K (.ref C_NoFraction) = true)
    (eC_NoFraction : PySem.W.subIn K (.ref C_NoFraction) (.type "BaseException") = some true)
    (tC_NoFraction : PySem.W.typeIn K (.ref C_NoFraction) = some (.type "type"))
    (q_NoFraction : PySem.W.excIn K C_NoFraction [.type "ValueError", .type "Exception", .type "BaseException", .type "object"] "ValueError.__new__" = true)
    (a1 : PySem.W.nsIn K mainGlobals "common" = some (some (.ref f1)))
    (l1 : K.lookup f1 = some ⟨oc1, od1, .func (PySem.W.fnOf "common" "common" (defArgs s_common) (defBody s_common) (defScope s_common) .none kV1 dc1 pm1 an1 cd1 ct1), sl1⟩)
    (c1 : PySem.W.codeIn K cd1 "common" = true)
    (k1 : PySem.W.keepIn K (.ref f1) = true)
    (a2 : PySem.W.nsIn K mainGlobals "frac" = some (some (.ref f2)))
    (l2 : K.lookup f2 = some ⟨oc2, od2, .func (PySem.W.fnOf "frac" "frac" (defArgs s_frac) (defBody s_frac) (defScope s_frac) (.ref T2) kV2 dc2 pm2 an2 cd2 ct2), sl2⟩)
    (c2 : PySem.W.codeIn K cd2 "frac" = true)
    (k2 : PySem.W.keepIn K (.ref f2) = true)
    (t2 : K.lookup T2 = some ⟨ocT2, odT2, .seq #[.int 1 tkT2_0] nT2, slT2⟩)
    (a3 : PySem.W.nsIn K mainGlobals "sign_of" = some (some (.ref f3)))
    (l3 : K.lookup f3 = some ⟨oc3, od3, .func (PySem.W.fnOf "sign_of" "sign_of" (defArgs s_sign_of) (defBody s_sign_of) (defScope s_sign_of) .none kV3 dc3 pm3 an3 cd3 ct3), sl3⟩)
    (c3 : PySem.W.codeIn K cd3 "sign_of" = true)
    (k3 : PySem.W.keepIn K (.ref f3) = true)
    (a4 : PySem.W.nsIn K mainGlobals "less" = some (some (.ref f4)))
    (l4 : K.lookup f4 = some ⟨oc4, od4, .func (PySem.W.fnOf "less" "less" (defArgs s_less) (defBody s_less) (defScope s_less) .none kV4 dc4 pm4 an4 cd4 ct4), sl4⟩)
    (c4 : PySem.W.codeIn K cd4 "less" = true)
    (k4 : PySem.W.keepIn K (.ref f4) = true)
    (a5 : PySem.W.nsIn K mainGlobals "place_side" = some (some (.ref f5)))
    (l5 : K.lookup f5 = some ⟨oc5, od5, .func (PySem.W.fnOf "place_side" "place_side" (defArgs s_place_side) (defBody s_place_side) (defScope s_place_side) .none kV5 dc5 pm5 an5 cd5 ct5), sl5⟩)
    (c5 : PySem.W.codeIn K cd5 "place_side" = true)
    (k5 : PySem.W.keepIn K (.ref f5) = true)
    (a6 : PySem.W.nsIn K mainGlobals "is_least" = some (some (.ref f6)))
    (l6 : K.lookup f6 = some ⟨oc6, od6, .func (PySem.W.fnOf "is_least" "is_least" (defArgs s_is_least) (defBody s_is_least) (defScope s_is_least) .none kV6 dc6 pm6 an6 cd6 ct6), sl6⟩)
    (c6 : PySem.W.codeIn K cd6 "is_least" = true)
    (k6 : PySem.W.keepIn K (.ref f6) = true)
    (a7 : PySem.W.nsIn K mainGlobals "overlap" = some (some (.ref f7)))
    (l7 : K.lookup f7 = some ⟨oc7, od7, .func (PySem.W.fnOf "overlap" "overlap" (defArgs s_overlap) (defBody s_overlap) (defScope s_overlap) .none kV7 dc7 pm7 an7 cd7 ct7), sl7⟩)
    (c7 : PySem.W.codeIn K cd7 "overlap" = true)
    (k7 : PySem.W.keepIn K (.ref f7) = true)
    (a8 : PySem.W.nsIn K mainGlobals "touch" = some (some (.ref f8)))
    (l8 : K.lookup f8 = some ⟨oc8, od8, .func (PySem.W.fnOf "touch" "touch" (defArgs s_touch) (defBody s_touch) (defScope s_touch) .none kV8 dc8 pm8 an8 cd8 ct8), sl8⟩)
    (c8 : PySem.W.codeIn K cd8 "touch" = true)
    (k8 : PySem.W.keepIn K (.ref f8) = true)
    (a9 : PySem.W.nsIn K mainGlobals "_law_low" = some (some (.ref f9)))
    (l9 : K.lookup f9 = some ⟨oc9, od9, .func (PySem.W.fnOf "_law_low" "_law_low" (defArgs s_l_low) (defBody s_l_low) (defScope s_l_low) .none kV9 dc9 pm9 an9 cd9 ct9), sl9⟩)
    (c9 : PySem.W.codeIn K cd9 "_law_low" = true)
    (k9 : PySem.W.keepIn K (.ref f9) = true)
    (a10 : PySem.W.nsIn K mainGlobals "pieces_of" = some (some (.ref f10)))
    (l10 : K.lookup f10 = some ⟨oc10, od10, .func (PySem.W.fnOf "pieces_of" "pieces_of" (defArgs s_pieces_of) (defBody s_pieces_of) (defScope s_pieces_of) .none kV10 dc10 pm10 an10 cd10 ct10), sl10⟩)
    (c10 : PySem.W.codeIn K cd10 "pieces_of" = true)
    (k10 : PySem.W.keepIn K (.ref f10) = true)
    (a11 : PySem.W.nsIn K mainGlobals "measure_of" = some (some (.ref f11)))
    (l11 : K.lookup f11 = some ⟨oc11, od11, .func (PySem.W.fnOf "measure_of" "measure_of" (defArgs s_measure_of) (defBody s_measure_of) (defScope s_measure_of) .none kV11 dc11 pm11 an11 cd11 ct11), sl11⟩)
    (c11 : PySem.W.codeIn K cd11 "measure_of" = true)
    (k11 : PySem.W.keepIn K (.ref f11) = true)
    (a12 : PySem.W.nsIn K mainGlobals "sweep_rows" = some (some (.ref f12)))
    (l12 : K.lookup f12 = some ⟨oc12, od12, .func (PySem.W.fnOf "sweep_rows" "sweep_rows" (defArgs s_sweep_rows) (defBody s_sweep_rows) (defScope s_sweep_rows) .none kV12 dc12 pm12 an12 cd12 ct12), sl12⟩)
    (c12 : PySem.W.codeIn K cd12 "sweep_rows" = true)
    (k12 : PySem.W.keepIn K (.ref f12) = true)
    (a13 : PySem.W.nsIn K mainGlobals "swept" = some (some (.ref f13)))
    (l13 : K.lookup f13 = some ⟨oc13, od13, .func (PySem.W.fnOf "swept" "swept" (defArgs s_swept) (defBody s_swept) (defScope s_swept) .none kV13 dc13 pm13 an13 cd13 ct13), sl13⟩)
    (c13 : PySem.W.codeIn K cd13 "swept" = true)
    (k13 : PySem.W.keepIn K (.ref f13) = true)
    (a14 : PySem.W.nsIn K mainGlobals "_law_bag" = some (some (.ref f14)))
    (l14 : K.lookup f14 = some ⟨oc14, od14, .func (PySem.W.fnOf "_law_bag" "_law_bag" (defArgs s_l_bag) (defBody s_l_bag) (defScope s_l_bag) .none kV14 dc14 pm14 an14 cd14 ct14), sl14⟩)
    (c14 : PySem.W.codeIn K cd14 "_law_bag" = true)
    (k14 : PySem.W.keepIn K (.ref f14) = true)
    (a15 : PySem.W.nsIn K mainGlobals "_law_take" = some (some (.ref f15)))
    (l15 : K.lookup f15 = some ⟨oc15, od15, .func (PySem.W.fnOf "_law_take" "_law_take" (defArgs s_l_take) (defBody s_l_take) (defScope s_l_take) .none kV15 dc15 pm15 an15 cd15 ct15), sl15⟩)
    (c15 : PySem.W.codeIn K cd15 "_law_take" = true)
    (k15 : PySem.W.keepIn K (.ref f15) = true)
    (a16 : PySem.W.nsIn K mainGlobals "_law_homogen" = some (some (.ref f16)))
    (l16 : K.lookup f16 = some ⟨oc16, od16, .func (PySem.W.fnOf "_law_homogen" "_law_homogen" (defArgs s_l_homogen) (defBody s_l_homogen) (defScope s_l_homogen) .none kV16 dc16 pm16 an16 cd16 ct16), sl16⟩)
    (c16 : PySem.W.codeIn K cd16 "_law_homogen" = true)
    (k16 : PySem.W.keepIn K (.ref f16) = true)
    (a17 : PySem.W.nsIn K mainGlobals "_law_spin" = some (some (.ref f17)))
    (l17 : K.lookup f17 = some ⟨oc17, od17, .func (PySem.W.fnOf "_law_spin" "_law_spin" (defArgs s_l_spin) (defBody s_l_spin) (defScope s_l_spin) .none kV17 dc17 pm17 an17 cd17 ct17), sl17⟩)
    (c17 : PySem.W.codeIn K cd17 "_law_spin" = true)
    (k17 : PySem.W.keepIn K (.ref f17) = true)
    (a18 : PySem.W.nsIn K mainGlobals "_law_within" = some (some (.ref f18)))
    (l18 : K.lookup f18 = some ⟨oc18, od18, .func (PySem.W.fnOf "_law_within" "_law_within" (defArgs s_l_within) (defBody s_l_within) (defScope s_l_within) .none kV18 dc18 pm18 an18 cd18 ct18), sl18⟩)
    (c18 : PySem.W.codeIn K cd18 "_law_within" = true)
    (k18 : PySem.W.keepIn K (.ref f18) = true)
    (a19 : PySem.W.nsIn K mainGlobals "_law_touch" = some (some (.ref f19)))
    (l19 : K.lookup f19 = some ⟨oc19, od19, .func (PySem.W.fnOf "_law_touch" "_law_touch" (defArgs s_l_touch) (defBody s_l_touch) (defScope s_l_touch) .none kV19 dc19 pm19 an19 cd19 ct19), sl19⟩)
    (c19 : PySem.W.codeIn K cd19 "_law_touch" = true)
    (k19 : PySem.W.keepIn K (.ref f19) = true)
    (a20 : PySem.W.nsIn K mainGlobals "_law_place" = some (some (.ref f20)))
    (l20 : K.lookup f20 = some ⟨oc20, od20, .func (PySem.W.fnOf "_law_place" "_law_place" (defArgs s_l_place) (defBody s_l_place) (defScope s_l_place) .none kV20 dc20 pm20 an20 cd20 ct20), sl20⟩)
    (c20 : PySem.W.codeIn K cd20 "_law_place" = true)
    (k20 : PySem.W.keepIn K (.ref f20) = true)
    (a21 : PySem.W.nsIn K mainGlobals "_law_lines" = some (some (.ref f21)))
    (l21 : K.lookup f21 = some ⟨oc21, od21, .func (PySem.W.fnOf "_law_lines" "_law_lines" (defArgs s_l_lines) (defBody s_l_lines) (defScope s_l_lines) .none kV21 dc21 pm21 an21 cd21 ct21), sl21⟩)
    (c21 : PySem.W.codeIn K cd21 "_law_lines" = true)
    (k21 : PySem.W.keepIn K (.ref f21) = true)
    (a22 : PySem.W.nsIn K mainGlobals "_law_meet" = some (some (.ref f22)))
    (l22 : K.lookup f22 = some ⟨oc22, od22, .func (PySem.W.fnOf "_law_meet" "_law_meet" (defArgs s_l_meet) (defBody s_l_meet) (defScope s_l_meet) .none kV22 dc22 pm22 an22 cd22 ct22), sl22⟩)
    (c22 : PySem.W.codeIn K cd22 "_law_meet" = true)
    (k22 : PySem.W.keepIn K (.ref f22) = true)
    (a23 : PySem.W.nsIn K mainGlobals "_law_pairs" = some (some (.ref f23)))
    (l23 : K.lookup f23 = some ⟨oc23, od23, .func (PySem.W.fnOf "_law_pairs" "_law_pairs" (defArgs s_l_pairs) (defBody s_l_pairs) (defScope s_l_pairs) .none kV23 dc23 pm23 an23 cd23 ct23), sl23⟩)
    (c23 : PySem.W.codeIn K cd23 "_law_pairs" = true)
    (k23 : PySem.W.keepIn K (.ref f23) = true)
    (a24 : PySem.W.nsIn K mainGlobals "law" = some (some (.ref f24)))
    (l24 : K.lookup f24 = some ⟨oc24, od24, .func (PySem.W.fnOf "law" "law" (defArgs s_law) (defBody s_law) (defScope s_law) .none kV24 dc24 pm24 an24 cd24 ct24), sl24⟩)
    (c24 : PySem.W.codeIn K cd24 "law" = true)
    (k24 : PySem.W.keepIn K (.ref f24) = true)
    (z_ZeroDivisionError : PySem.W.nsIn K mainGlobals "ZeroDivisionError" = some none)
    (z_abs : PySem.W.nsIn K mainGlobals "abs" = some none)
    (z_enumerate : PySem.W.nsIn K mainGlobals "enumerate" = some none)
    (z_int : PySem.W.nsIn K mainGlobals "int" = some none)
    (z_len : PySem.W.nsIn K mainGlobals "len" = some none)
    (z_list : PySem.W.nsIn K mainGlobals "list" = some none)
    (z_max : PySem.W.nsIn K mainGlobals "max" = some none)
    (z_min : PySem.W.nsIn K mainGlobals "min" = some none)
    (z_range : PySem.W.nsIn K mainGlobals "range" = some none)
    (z_sorted : PySem.W.nsIn K mainGlobals "sorted" = some none)
    (z_tuple : PySem.W.nsIn K mainGlobals "tuple" = some none)
    (z_zip : PySem.W.nsIn K mainGlobals "zip" = some none) :
    ∃ fd : FuncData, (∀ (s : Shared) (v : Value), BindsTo s fd ⟨[v], []⟩ [("_law_script", v)]) ∧ ∀ base : Heap, K.In base → base.Ns mainGlobals mg → FnOk l.prog w K mg base CX0 8 fa fd ["_law_script"] (spI K P_law) := by
  have e := hfa.symm.trans (PySem.W.mg_of X G a24)
  cases e
  have B : Bs mg := ⟨PySem.W.mg_none_of X G z_ZeroDivisionError, PySem.W.mg_none_of X G z_abs, PySem.W.mg_none_of X G z_enumerate, PySem.W.mg_none_of X G z_int, PySem.W.mg_none_of X G z_len, PySem.W.mg_none_of X G z_list, PySem.W.mg_none_of X G z_max, PySem.W.mg_none_of X G z_min, PySem.W.mg_none_of X G z_range, PySem.W.mg_none_of X G z_sorted, PySem.W.mg_none_of X G z_tuple, PySem.W.mg_none_of X G z_zip⟩
  have F1 := fun_mk (st := s_common) l1 c1 k1
  have F2 : FunD K "frac" "frac" (defArgs s_frac) (defBody s_frac) (defScope s_frac) [.int 1] [] f2 _ := ⟨⟨oc2, od2, .ref T2, kV2, dc2, pm2, an2, cd2, ct2, sl2, rfl, l2, c2, .inr ⟨by simp, T2, _, [.int 1 tkT2_0], _, rfl, t2, rfl, (.cons ⟨_, rfl⟩ .nil)⟩, .inl rfl⟩, k2⟩
  have F3 := fun_mk (st := s_sign_of) l3 c3 k3
  have F4 := fun_mk (st := s_less) l4 c4 k4
  have F5 := fun_mk (st := s_place_side) l5 c5 k5
  have F6 := fun_mk (st := s_is_least) l6 c6 k6
  have F7 := fun_mk (st := s_overlap) l7 c7 k7
  have F8 := fun_mk (st := s_touch) l8 c8 k8
  have F9 := fun_mk (st := s_l_low) l9 c9 k9
  have F10 := fun_mk (st := s_pieces_of) l10 c10 k10
  have F11 := fun_mk (st := s_measure_of) l11 c11 k11
  have F12 := fun_mk (st := s_sweep_rows) l12 c12 k12
  have F13 := fun_mk (st := s_swept) l13 c13 k13
  have F14 := fun_mk (st := s_l_bag) l14 c14 k14
  have F15 := fun_mk (st := s_l_take) l15 c15 k15
  have F16 := fun_mk (st := s_l_homogen) l16 c16 k16
  have F17 := fun_mk (st := s_l_spin) l17 c17 k17
  have F18 := fun_mk (st := s_l_within) l18 c18 k18
  have F19 := fun_mk (st := s_l_touch) l19 c19 k19
  have F20 := fun_mk (st := s_l_place) l20 c20 k20
  have F21 := fun_mk (st := s_l_lines) l21 c21 k21
  have F22 := fun_mk (st := s_l_meet) l22 c22 k22
  have F23 := fun_mk (st := s_l_pairs) l23 c23 k23
  have F24 := fun_mk (st := s_law) l24 c24 k24
  refine ⟨PySem.W.fnOf "law" "law" (defArgs s_law) (defBody s_law) (defScope s_law) .none kV24 dc24 pm24 an24 cd24 ct24, fun s v => .of_eq rfl, fun base _ _ => ?_⟩
  have E_NoFraction : Exc0 K mg "NoFraction" C_NoFraction := ⟨⟨"ValueError", _, _, XO.tlVE, PySem.F.excBase_ValueError, q_NoFraction⟩, PySem.W.mg_of X G aC_NoFraction, kc_NoFraction, eC_NoFraction, tC_NoFraction⟩
  have b1 := F1.binds (ps := ["one", "other"]) fun _ _ _ _ _ _ us hl => match us, hl with | [_, _], _ => rfl
  have G1 : Def l.prog w K mg base "common" ["one", "other"] 1 (spI K P_common) := ⟨f1, _, ok_common F1 B, PySem.W.mg_of X G a1, k1, b1⟩
  obtain ⟨ds2, rd2, b2⟩ := F2.binds1 (ps := ["top", "bottom"]) 2 1 (by simp) (by simp) (fun _ _ _ _ _ _ _ us its h1 h2 => match us, its, h1, h2 with | [_, _], [_], _, _ => ⟨_, rfl, rfl⟩)
  cases (show Vals [] ds2 from rd2)
  have O2 := ok_frac (P := l.prog) (w := w) (base := base) F2 B E_NoFraction G1
  have G2 : DefX l.prog w K mg base "frac" ["top", "bottom"] 2 (spX K (xn mg) P_frac) := ⟨f2, _, O2, PySem.W.mg_of X G a2, k2, b2⟩
  have b3 := F3.binds (ps := ["number"]) fun _ _ _ _ _ _ us hl => match us, hl with | [_], _ => rfl
  have G3 : Def l.prog w K mg base "sign_of" ["number"] 1 (spI K P_sign_of) := ⟨f3, _, ok_sign_of F3 B, PySem.W.mg_of X G a3, k3, b3⟩
  have b4 := F4.binds (ps := ["one", "other"]) fun _ _ _ _ _ _ us hl => match us, hl with | [_, _], _ => rfl
  have G4 : Def l.prog w K mg base "less" ["one", "other"] 1 (spI K P_less) := ⟨f4, _, ok_less F4 B, PySem.W.mg_of X G a4, k4, b4⟩
  have b5 := F5.binds (ps := ["a", "b", "c"]) fun _ _ _ _ _ _ us hl => match us, hl with | [_, _, _], _ => rfl
  have G5 : Def l.prog w K mg base "place_side" ["a", "b", "c"] 2 (spI K P_place_side) := ⟨f5, _, ok_place_side F5 B G4 G3, PySem.W.mg_of X G a5, k5, b5⟩
  have b6 := F6.binds (ps := ["one", "other"]) fun _ _ _ _ _ _ us hl => match us, hl with | [_, _], _ => rfl
  have G6 : Def l.prog w K mg base "is_least" ["one", "other"] 1 (spI K P_is_least) := ⟨f6, _, ok_is_least F6 B, PySem.W.mg_of X G a6, k6, b6⟩
  have b7 := F7.binds (ps := ["a", "b", "c", "d"]) fun _ _ _ _ _ _ us hl => match us, hl with | [_, _, _, _], _ => rfl
  have G7 : Def l.prog w K mg base "overlap" ["a", "b", "c", "d"] 2 (spI K P_overlap) := ⟨f7, _, ok_overlap F7 B G6, PySem.W.mg_of X G a7, k7, b7⟩
  have b8 := F8.binds (ps := ["a", "b", "c", "d"]) fun _ _ _ _ _ _ us hl => match us, hl with | [_, _, _, _], _ => rfl
  have G8 : Def l.prog w K mg base "touch" ["a", "b", "c", "d"] 3 (spI K P_touch) := ⟨f8, _, ok_touch F8 B G7 G5, PySem.W.mg_of X G a8, k8, b8⟩
  have b9 := F9.binds (ps := ["_law_over", "_law_under"]) fun _ _ _ _ _ _ us hl => match us, hl with | [_, _], _ => rfl
  have G9 : Def l.prog w K mg base "_law_low" ["_law_over", "_law_under"] 1 (spI K P_l_low) := ⟨f9, _, ok_l_low F9 B, PySem.W.mg_of X G a9, k9, b9⟩
  have b10 := F10.binds (ps := ["line"]) fun _ _ _ _ _ _ us hl => match us, hl with | [_], _ => rfl
  have G10 : Def l.prog w K mg base "pieces_of" ["line"] 1 (spI K P_pieces_of) := ⟨f10, _, ok_pieces_of F10 B, PySem.W.mg_of X G a10, k10, b10⟩
  have b11 := F11.binds (ps := ["lines"]) fun _ _ _ _ _ _ us hl => match us, hl with | [_], _ => rfl
  have G11 : Def l.prog w K mg base "measure_of" ["lines"] 4 (spI K P_measure_of) := ⟨f11, _, ok_measure_of F11 B G2, PySem.W.mg_of X G a11, k11, b11⟩
  have b12 := F12.binds (ps := ["lines"]) fun _ _ _ _ _ _ us hl => match us, hl with | [_], _ => rfl
  have G12 : Def l.prog w K mg base "sweep_rows" ["lines"] 5 (spI K P_sweep_rows) := ⟨f12, _, ok_sweep_rows F12 B G11 G10, PySem.W.mg_of X G a12, k12, b12⟩
  have b13 := F13.binds (ps := ["lines"]) fun _ _ _ _ _ _ us hl => match us, hl with | [_], _ => rfl
  have G13 : Def l.prog w K mg base "swept" ["lines"] 6 (spI K P_swept) := ⟨f13, _, ok_swept F13 B G12 G8, PySem.W.mg_of X G a13, k13, b13⟩
  have b14 := F14.binds (ps := ["_law_script", "_law_at"]) fun _ _ _ _ _ _ us hl => match us, hl with | [_, _], _ => rfl
  have G14 : Def l.prog w K mg base "_law_bag" ["_law_script", "_law_at"] 2 (spI K P_l_bag) := ⟨f14, _, ok_l_bag F14 B, PySem.W.mg_of X G a14, k14, b14⟩
  have b15 := F15.binds (ps := ["_law_bag_here", "_law_many"]) fun _ _ _ _ _ _ us hl => match us, hl with | [_, _], _ => rfl
  have G15 : Def l.prog w K mg base "_law_take" ["_law_bag_here", "_law_many"] 1 (spI K P_l_take) := ⟨f15, _, ok_l_take F15 B, PySem.W.mg_of X G a15, k15, b15⟩
  have b16 := F16.binds (ps := ["_law_place_here"]) fun _ _ _ _ _ _ us hl => match us, hl with | [_], _ => rfl
  have G16 : Def l.prog w K mg base "_law_homogen" ["_law_place_here"] 1 (spI K P_l_homogen) := ⟨f16, _, ok_l_homogen F16 B, PySem.W.mg_of X G a16, k16, b16⟩
  have b17 := F17.binds (ps := ["_law_a", "_law_b", "_law_c"]) fun _ _ _ _ _ _ us hl => match us, hl with | [_, _, _], _ => rfl
  have G17 : Def l.prog w K mg base "_law_spin" ["_law_a", "_law_b", "_law_c"] 1 (spI K P_l_spin) := ⟨f17, _, ok_l_spin F17 B, PySem.W.mg_of X G a17, k17, b17⟩
  have b18 := F18.binds (ps := ["_law_a", "_law_b", "_law_c"]) fun _ _ _ _ _ _ us hl => match us, hl with | [_, _, _], _ => rfl
  have G18 : Def l.prog w K mg base "_law_within" ["_law_a", "_law_b", "_law_c"] 1 (spI K P_l_within) := ⟨f18, _, ok_l_within F18 B, PySem.W.mg_of X G a18, k18, b18⟩
  have b19 := F19.binds (ps := ["_law_a", "_law_b", "_law_c", "_law_d"]) fun _ _ _ _ _ _ us hl => match us, hl with | [_, _, _, _], _ => rfl
  have G19 : Def l.prog w K mg base "_law_touch" ["_law_a", "_law_b", "_law_c", "_law_d"] 2 (spI K P_l_touch) := ⟨f19, _, ok_l_touch F19 B G17 G18, PySem.W.mg_of X G a19, k19, b19⟩
  have b20 := F20.binds (ps := ["_law_bag_here", "_law_under", "_law_far"]) fun _ _ _ _ _ _ us hl => match us, hl with | [_, _, _], _ => rfl
  have G20 : Def l.prog w K mg base "_law_place" ["_law_bag_here", "_law_under", "_law_far"] 2 (spI K P_l_place) := ⟨f20, _, ok_l_place F20 B G9 G15, PySem.W.mg_of X G a20, k20, b20⟩
  have b21 := F21.binds (ps := ["_law_bag_here", "_law_most"]) fun _ _ _ _ _ _ us hl => match us, hl with | [_, _], _ => rfl
  have G21 : Def l.prog w K mg base "_law_lines" ["_law_bag_here", "_law_most"] 3 (spI K P_l_lines) := ⟨f21, _, ok_l_lines F21 B G20 G15, PySem.W.mg_of X G a21, k21, b21⟩
  have b22 := F22.binds (ps := ["_law_one", "_law_other"]) fun _ _ _ _ _ _ us hl => match us, hl with | [_, _], _ => rfl
  have G22 : Def l.prog w K mg base "_law_meet" ["_law_one", "_law_other"] 4 (spI K P_l_meet) := ⟨f22, _, ok_l_meet F22 B G16 G19, PySem.W.mg_of X G a22, k22, b22⟩
  have b23 := F23.binds (ps := ["_law_lines_here"]) fun _ _ _ _ _ _ us hl => match us, hl with | [_], _ => rfl
  have G23 : Def l.prog w K mg base "_law_pairs" ["_law_lines_here"] 5 (spI K P_l_pairs) := ⟨f23, _, ok_l_pairs F23 B G22, PySem.W.mg_of X G a23, k23, b23⟩
  exact ok_law F24 B G14 G21 G23 G15 G13
theorem walk {l : PySem.W.OpenLaw} {q : Program} {loose : List Str} {XP : (Str → Option Value) → Heap → Prop} {YP : World → Heap → Prop} {d : DefRec} {K : Params → PySem.W.Frag} (hn : l.most = some 63) (hdf : d.params.defaults = [])
    (hY : ∀ (w : World) (h : Heap), YP w h → (K w.params).In h)
    (F : ∀ (w : World) (mg : Str → Option Value) (fa : Addr) (h : Heap), (K w.params).In h → h.Ns mainGlobals mg → mg d.name = some (.ref fa) →
      ∃ fd : FuncData, (∀ (s : Shared) (u : Value), BindsTo s fd ⟨[u], []⟩ [("_law_script", u)]) ∧ ∀ base : Heap, (K w.params).In base → base.Ns mainGlobals mg → FnOk l.prog w (K w.params) mg base CX0 8 fa fd ["_law_script"] (spI (K w.params) P_law)) :
    PySem.W.WalkO q loose XP YP l.row.toRowW d [] (fun f vs => PySem.call f vs) :=
  L2.walk_of (n := 63) (k := 8) (x := "_law_script") (CX := fun _ => CX0) (sp := fun w => spI (K w.params) P_law) hn (by decide) hdf ⟨rfl, by decide, by decide⟩ hY F (fun _ _ a ns hl hO hS => law_start hl hO hS) fun _ _ _ _ _ z => z
end W
open PySem PySem.W PyProof.Rows in
set_option maxRecDepth 100000 in
set_option maxHeartbeats 0 in
theorem PySem.Challenge.cw_rubberroutes_k43_sweeps_holds : PySem.Challenge.rw_rubberroutes_k43_sweeps.Holds := by
  w_on; o_law; k_head; (case hw => w_witness2)
  k_fill
  refine W.walk (l := PySem.Challenge.rw_rubberroutes_k43_sweeps) rfl rfl (fun w h Y => by first | exact PySem.W.kIn_of Y | exact PySem.W.km_in_of Y) ?F
  case F =>
    intro w mg fa h KX G hmg
    refine' W.all_mk KX G hmg ?aC_NoFraction ?kc_NoFraction ?eC_NoFraction ?tC_NoFraction ?q_NoFraction ?a1 ?l1 ?c1 ?k1 ?a2 ?l2 ?c2 ?k2 ?t2 ?a3 ?l3 ?c3 ?k3 ?a4 ?l4 ?c4 ?k4 ?a5 ?l5 ?c5 ?k5 ?a6 ?l6 ?c6 ?k6 ?a7 ?l7 ?c7 ?k7 ?a8 ?l8 ?c8 ?k8 ?a9 ?l9 ?c9 ?k9 ?a10 ?l10 ?c10 ?k10 ?a11 ?l11 ?c11 ?k11 ?a12 ?l12 ?c12 ?k12 ?a13 ?l13 ?c13 ?k13 ?a14 ?l14 ?c14 ?k14 ?a15 ?l15 ?c15 ?k15 ?a16 ?l16 ?c16 ?k16 ?a17 ?l17 ?c17 ?k17 ?a18 ?l18 ?c18 ?k18 ?a19 ?l19 ?c19 ?k19 ?a20 ?l20 ?c20 ?k20 ?a21 ?l21 ?c21 ?k21 ?a22 ?l22 ?c22 ?k22 ?a23 ?l23 ?c23 ?k23 ?a24 ?l24 ?c24 ?k24 ?z_ZeroDivisionError ?z_abs ?z_enumerate ?z_int ?z_len ?z_list ?z_max ?z_min ?z_range ?z_sorted ?z_tuple ?z_zip
    (case aC_NoFraction => k_is)
    (case kc_NoFraction => k_is)
    (case eC_NoFraction => k_is)
    (case tC_NoFraction => k_is)
    (case q_NoFraction => k_exc)
    (case a1 => k_is)
    (case l1 => k_is)
    (case c1 => k_is)
    (case k1 => k_is)
    (case a2 => k_is)
    (case l2 => k_is)
    (case c2 => k_is)
    (case k2 => k_is)
    (case t2 => k_is)
    (case a3 => k_is)
    (case l3 => k_is)
    (case c3 => k_is)
    (case k3 => k_is)
    (case a4 => k_is)
    (case l4 => k_is)
    (case c4 => k_is)
    (case k4 => k_is)
    (case a5 => k_is)
    (case l5 => k_is)
    (case c5 => k_is)
    (case k5 => k_is)
    (case a6 => k_is)
    (case l6 => k_is)
    (case c6 => k_is)
    (case k6 => k_is)
    (case a7 => k_is)
    (case l7 => k_is)
    (case c7 => k_is)
    (case k7 => k_is)
    (case a8 => k_is)
    (case l8 => k_is)
    (case c8 => k_is)
    (case k8 => k_is)
    (case a9 => k_is)
    (case l9 => k_is)
    (case c9 => k_is)
    (case k9 => k_is)
    (case a10 => k_is)
    (case l10 => k_is)
    (case c10 => k_is)
    (case k10 => k_is)
    (case a11 => k_is)
    (case l11 => k_is)
    (case c11 => k_is)
    (case k11 => k_is)
    (case a12 => k_is)
    (case l12 => k_is)
    (case c12 => k_is)
    (case k12 => k_is)
    (case a13 => k_is)
    (case l13 => k_is)
    (case c13 => k_is)
    (case k13 => k_is)
    (case a14 => k_is)
    (case l14 => k_is)
    (case c14 => k_is)
    (case k14 => k_is)
    (case a15 => k_is)
    (case l15 => k_is)
    (case c15 => k_is)
    (case k15 => k_is)
    (case a16 => k_is)
    (case l16 => k_is)
    (case c16 => k_is)
    (case k16 => k_is)
    (case a17 => k_is)
    (case l17 => k_is)
    (case c17 => k_is)
    (case k17 => k_is)
    (case a18 => k_is)
    (case l18 => k_is)
    (case c18 => k_is)
    (case k18 => k_is)
    (case a19 => k_is)
    (case l19 => k_is)
    (case c19 => k_is)
    (case k19 => k_is)
    (case a20 => k_is)
    (case l20 => k_is)
    (case c20 => k_is)
    (case k20 => k_is)
    (case a21 => k_is)
    (case l21 => k_is)
    (case c21 => k_is)
    (case k21 => k_is)
    (case a22 => k_is)
    (case l22 => k_is)
    (case c22 => k_is)
    (case k22 => k_is)
    (case a23 => k_is)
    (case l23 => k_is)
    (case c23 => k_is)
    (case k23 => k_is)
    (case a24 => k_is)
    (case l24 => k_is)
    (case c24 => k_is)
    (case k24 => k_is)
    (case z_ZeroDivisionError => k_is)
    (case z_abs => k_is)
    (case z_enumerate => k_is)
    (case z_int => k_is)
    (case z_len => k_is)
    (case z_list => k_is)
    (case z_max => k_is)
    (case z_min => k_is)
    (case z_range => k_is)
    (case z_sorted => k_is)
    (case z_tuple => k_is)
    (case z_zip => k_is)
